import PyProof.Rows.All
import Wide.All
import OpenK.AllK
import Wide.FinOn
import HandS.ForMost
import HandS.ForExc
import HandS.ExcIs
import HandS.IsInst
import HandS.EndTab
import HandS.TupLe
import HandS.Style
import HandS.FStr
import HandS.StrMore
import HandS.WideBits
import HandS.Walk
import PyProof.Rows.StrIntSpec
import PyProof.FString3
import PyProof.Rows.FStr
import PySem.Challenge.RW_narrowingbits_k61_one_bad_cell_a_group
set_option Elab.async false
set_option maxRecDepth 100000
set_option maxHeartbeats 4000000
namespace NB
open PySem L2
/-! ### the frozen part, the steps -/
/-- from (F, H) to (F', H'): F is what stands still, H the whole; S: the cells that may be written -/
structure Stp (S : Addr → Prop) (F H F' H' : Hp) : Prop where
  ff : Same F F'
  fh : Same F' H'
  fo : ∀ b o, H b = some o → F' b = F b
  keep : ∀ b o, ¬ S b → H b = some o → H' b = some o
  dom : ∀ b o, H b = some o → ∃ o', H' b = some o'
abbrev S0 : Addr → Prop := fun _ => False
abbrev S1 (p : Addr) : Addr → Prop := fun b => b = p
section
variable {S S' : Addr → Prop} {F H F1 H1 F2 H2 : Hp} {p : Addr} {o o' : HO}
theorem Stp.rfl' (h : Same F H) : Stp S F H F H := ⟨Same.refl F, h, fun _ _ _ => rfl, fun _ _ _ e => e, fun _ o e => ⟨o, e⟩⟩
theorem Stp.trans (a : Stp S F H F1 H1) (b : Stp S F1 H1 F2 H2) : Stp S F H F2 H2 :=
  ⟨a.ff.trans b.ff, b.fh, fun c o e => by
    obtain ⟨o', e'⟩ := a.dom c o e
    rw [b.fo c o' e', a.fo c o e], fun c o n e => b.keep c o n (a.keep c o n e), fun c o e => by
    obtain ⟨o', e'⟩ := a.dom c o e
    exact b.dom c o' e'⟩
theorem Stp.sub (i : ∀ b, S b → S' b) (a : Stp S F H F1 H1) : Stp S' F H F1 H1 := ⟨a.ff, a.fh, a.fo, fun b o n e => a.keep b o (fun z => n (i b z)) e, a.dom⟩
theorem Stp.up (a : Stp S0 F H F1 H1) : Stp S F H F1 H1 := a.sub fun _ z => z.elim
theorem Stp.same (a : Stp S0 F H F1 H1) : Same H H1 := fun b o e => a.keep b o (fun z => z) e
/-- a new thing that will never change -/
theorem Stp.new (h : Same F H) (hp : H p = none) : Stp S F H (upd F p o) (upd H p o) := by
  have fp : F p = none := h.free hp
  refine ⟨fun b u e => ?_, fun b u e => ?_, fun b u e => ?_, fun b u _ e => ?_, fun b u e => ⟨u, ?_⟩⟩
  · rw [upd_ne (ne_of_none e fp)]; exact e
  · by_cases q : b = p
    · subst q; rw [upd_same] at e ⊢; exact e
    · rw [upd_ne q] at e ⊢; exact h b u e
  · rw [upd_ne (ne_of_none e hp)]
  · rw [upd_ne (ne_of_none e hp)]; exact e
  · rw [upd_ne (ne_of_none e hp)]; exact e
/-- a new cell -/
theorem Stp.cell (h : Same F H) (hp : H p = none) : Stp S F H F (upd H p o) :=
  ⟨Same.refl F, fun b u e => by rw [upd_ne (ne_of_none (h b u e) hp)]; exact h b u e, fun _ _ _ => rfl, fun b u _ e => by rw [upd_ne (ne_of_none e hp)]; exact e, fun b u e => ⟨u, by rw [upd_ne (ne_of_none e hp)]; exact e⟩⟩
/-- a cell written -/
theorem Stp.wr (h : Same F H) (hs : S p) (fp : F p = none) : Stp S F H F (upd H p o) :=
  ⟨Same.refl F, fun b u e => by
    have n : b ≠ p := fun q => by rw [q, fp] at e; cases e
    rw [upd_ne n]; exact h b u e, fun _ _ _ => rfl, fun b u n e => by
    have q : b ≠ p := fun z => n (z ▸ hs)
    rw [upd_ne q]; exact e, fun b u e => by
    by_cases q : b = p
    · exact ⟨o, by rw [q, upd_same]⟩
    · exact ⟨u, by rw [upd_ne q]; exact e⟩⟩
/-- a cell that was made here is written -/
theorem Stp.wrNew (a : Stp S F H F1 H1) (hn : H p = none) (fp : F1 p = none) : Stp S F H F1 (upd H1 p o) :=
  ⟨a.ff, fun b u e => by
    have n : b ≠ p := fun q => by rw [q, fp] at e; cases e
    rw [upd_ne n]; exact a.fh b u e, a.fo, fun b u n e => by
    rw [upd_ne (ne_of_none e hn)]; exact a.keep b u n e, fun b u e => by
    rw [upd_ne (ne_of_none e hn)]; exact a.dom b u e⟩
/-- a cell that was made here stands still from now on -/
theorem Stp.freeze (a : Stp S F H F1 H1) (hn : H p = none) (hp : H1 p = some o) (fp : F1 p = none) : Stp S F H (upd F1 p o) H1 :=
  ⟨fun b u e => by
    have e1 := a.ff b u e
    rw [upd_ne (ne_of_none e1 fp)]; exact e1, fun b u e => by
    by_cases q : b = p
    · subst q; rw [upd_same] at e; cases e; exact hp
    · rw [upd_ne q] at e; exact a.fh b u e, fun b u e => by
    rw [upd_ne (ne_of_none e hn)]; exact a.fo b u e, a.keep, a.dom⟩
theorem Stp.free (a : Stp S F H F1 H1) (hp : H p = some o) (fp : F p = none) : F1 p = none := (a.fo p o hp).trans fp
end
/-! ### a def that stands, with its promise -/
structure Fn (P : Program) (w : World) (K : PySem.W.Frag) (mg : Str → Option Value) (base : Heap) (CX : CXT) (k : Nat) (nm : Str) (st : Stmt) (f : Addr) (fd : FuncData) (ps : List Str) (sp : Sp) : Prop where
  G : FnOk P w K mg base CX k f fd ps sp
  m : mg nm = some (.ref f)
  kp : PySem.W.keepIn K (.ref f) = true
  b : Binds K fd ps []
  F : Fun K nm nm st f fd
/-! ### keywords -/
def gK {α : Type} (n m : Nat) (us ws : List α) : List α := if us.length = n ∧ ws.length = m then us ++ ws else []
theorem _root_.L2.Fun.kbinds {K : PySem.W.Frag} {x qual : Str} {st : Stmt} {f : Addr} {fd : FuncData} {ps : List Str} (F : Fun K x qual st f fd) (n : Nat) (ks : List Str) (hn : 0 < ps.length)
    (h : ∀ (kV doc pm : Value) (an : Option Addr) (cdv ct : Value) (us ws : List Value), us.length = n → ws.length = ks.length → bindArgs (PySem.W.fnOf x qual (defArgs st) (defBody st) (defScope st) .none kV doc pm an cdv ct) ⟨us, ks.zip ws⟩ = pure (ps.zip (us ++ ws))) :
    KBinds K fd ps ks (gK n ks.length) (gK n ks.length) := by
  obtain ⟨oc, od, kV, doc, pm, an, cdv, ct, osl, rfl, lk, hcd⟩ := F.ex
  refine ⟨fun s us ws _ hl => ?_, fun {vs us zs ws} r rz => ?_⟩
  · by_cases c : us.length = n ∧ ws.length = ks.length
    · have e : gK n ks.length us ws = us ++ ws := if_pos c
      rw [e]
      exact .of_eq (h kV doc pm an cdv ct us ws c.1 c.2)
    · have e : gK n ks.length us ws = [] := if_neg c
      rw [e] at hl
      exact absurd hl (by show ¬ 0 = ps.length; omega)
  · unfold gK
    by_cases c : us.length = n ∧ ws.length = ks.length
    · have c' : vs.length = n ∧ zs.length = ks.length := ⟨r.length.trans c.1, rz.length.trans c.2⟩
      rw [if_pos c, if_pos c']
      exact r.append rz
    · have c' : ¬ (vs.length = n ∧ zs.length = ks.length) := fun z => c ⟨r.length.symm.trans z.1, rz.length.symm.trans z.2⟩
      rw [if_neg c, if_neg c']
      exact .nil
def tCallK0 (sp : Sp) (gV : List V → List V → List V) (E : XK) (tk : TA) : TE := fun σ H Q => tk σ H fun zs H2 => sp (gV [] zs) H2 Q E
theorem pe_callK0 {X : Cx} {CX : CXT} {k : Nat} {f : Addr} {fd : FuncData} {ps ks : List Str} {sp : Sp} {E : XK} {x : Str} {p pos : Pos} {kws : List Keyword} {tk : TA} {g : List Value → List Value → List Value} {gV : List V → List V → List V}
    (F : FnOk X.prog X.w X.K X.mg X.base CX k f fd ps sp) (hr : Room k X.A) (hg : Gl X x) (hm : X.mg x = some (.ref f)) (hk : PySem.W.keepIn X.K (.ref f) = true) (hb : KBinds X.K fd ps ks g gV) (hx : Passes CX X E) (hkw : PK X kws tk)
    (hall : (backToKw pos (keywordEach kws X.env)).all (·.1.isSome) = true := by rfl) (hks : (backToKw pos (keywordEach kws X.env)).filterMap (·.1) = ks := by rfl) (hdb : (x == ("__debug__" : Str)) = false := by decide)
    (hpl : ((backTo pos (starEach [] X.env)).any (·.1) || (backToKw pos (keywordEach kws X.env)).any (·.1.isNone)) = false := by rfl) : PE X (.Call (.Name x p) [] kws pos) (tCallK0 sp gV E tk) := by
  refine ⟨fun pins s σ H Q I h => ?_⟩
  refine wpAny_Call_Name_kw (ld_glob I hg hm ?_ hdb)
  refine PySem.W.callWith_KW0 (h₀ := X.base) I.ok.mod.kin hk hall ?_ hpl
  refine thn (hkw.run pos pins s σ H _ I h) fun ws s2 ⟨zs, H2, I2, rz, q2⟩ => ⟨I2.kIn, ?_⟩
  rw [hks]
  exact run_fnk F hr hb hx I2 .nil rz q2
def SpN (n : Nat) (s : Sp) : Sp := fun vs H Q E => vs.length = n ∧ s vs H Q E
/-! ### rules under names -/
def rInt1 : List V → Hp → VK → Prop := fun xs H Q => (∃ i, xs = [.int i] ∧ Q (.int i) H) ∨ ∃ k, xs = [.bl k] ∧ Q (.int (if k then 1 else 0)) H
def rMax2 : List V → Hp → VK → Prop := fun xs H Q => ∃ i j, xs = [.int i, .int j] ∧ Q (.int (if j > i then j else i)) H
def rMin2 : List V → Hp → VK → Prop := fun xs H Q => ∃ i j, xs = [.int i, .int j] ∧ Q (.int (if j < i then j else i)) H
def rLen (K : PySem.W.Frag) : List V → Hp → VK → Prop := fun xs H Q => ∃ p ys, xs = [.ref p] ∧ (SqL K H p ys ∨ SqT K H p ys) ∧ Q (.int ys.length) H
section
variable {X : Cx}
theorem c_int1 : CallR X (.type "int") rInt1 := call_int1
theorem c_max2 (hc : X.calm = true) : CallR X (.builtin "max") rMax2 := call_max2 hc
theorem c_min2 (hc : X.calm = true) : CallR X (.builtin "min") rMin2 := call_min2 hc
theorem c_len (K : PySem.W.Frag) (e : X.K = K) : CallR X (.builtin "len") (rLen K) := by subst e; exact call_len_seq
theorem c_isi (K : PySem.W.Frag) (e : X.K = K) : CallR X (.builtin "isinstance") (rIsi K) := by subst e; exact call_isi
theorem i_list (K : PySem.W.Frag) (e : X.K = K) : IxR X (rIxL K) := by subst e; exact ix_list
theorem i_tup (K : PySem.W.Frag) (e : X.K = K) : IxR X (rIxT K) := by subst e; exact ix_tup
theorem o_and1 : OpR X (binaryOp .BitAnd) (fun x y H Q => ∃ i : Int, x = .int i ∧ y = .int 1 ∧ Q (.int (i % 2)) H) := by
  intro pins s σ H x y v u Q I rx ry h
  obtain ⟨i, rfl, rfl, q⟩ := h
  exact op_andM pins s σ H _ _ v u Q I rx ry ⟨i, 1, rfl, rfl, by simpa using q⟩
theorem l_list (K : PySem.W.Frag) (e : X.K = K) : SlR X (rSlL K) := by subst e; exact sl_list
theorem o_in (K : PySem.W.Frag) (e : X.K = K) : OpR X (compareOp .In) (rIn K false) := by subst e; exact op_in_seq
theorem o_notIn (K : PySem.W.Frag) (e : X.K = K) : OpR X (compareOp .NotIn) (rIn K true) := by subst e; exact op_notIn_seq
def rDivmod : List V → Hp → VK → Prop := fun xs H Q => ∃ i j, xs = [.int i, .int j] ∧ CDiv i j ∧ ∀ p, H p = none → Q (.ref p) (upd H p (.tup [.int (i / j), .int (i % j)]))
theorem c_divmod : CallR X (.builtin "divmod") rDivmod := call_divmod
theorem o_eqD (K : PySem.W.Frag) (e : X.K = K) (hu : X.A.units + 64 < cLine) : OpR X (compareOp .Eq) (rEqD K) := by subst e; exact op_eqD hu
theorem o_neD (K : PySem.W.Frag) (e : X.K = K) (hu : X.A.units + 64 < cLine) : OpR X (compareOp .NotEq) (rNeD K) := by subst e; exact op_neD hu
end
theorem sz {n : Nat} (h : n ≤ 100000) : n ≤ sizeLine := Nat.le_trans h (by decide)
/-! ### readings, step by step -/
section
variable {X : Cx} {K : PySem.W.Frag} {σ : L2.St} {H F : Hp} {Q : VK} {i : Nat} {v x y : V} {ta tb : TE} {r : R2}
theorem s_var (h : σ[i]? = some (some v)) (q : Q v H) : tVar i σ H Q := ⟨v, h, q⟩
theorem s_c (q : Q v H) : tC v σ H Q := q
theorem s_op (h : ta σ H fun x H1 => tb σ H1 fun y H2 => r x y H2 Q) : tOp r ta tb σ H Q := h
theorem s_I0 {g : Int → Int → V} {i j : Int} (q : Q (g i j) H) : rI0 g (.int i) (.int j) H Q := ⟨i, j, rfl, rfl, q⟩
theorem s_I {C : Int → Int → Prop} {g : Int → Int → V} {i j : Int} (c : C i j) (q : Q (g i j) H) : rI C g (.int i) (.int j) H Q := ⟨i, j, rfl, rfl, c, q⟩
theorem s_eq (h : scal x y = true) (q : Q (.bl (decide (x = y))) H) : rEq x y H Q := ⟨h, q⟩
theorem dec_int (i j : Int) : decide (V.int i = V.int j) = decide (i = j) := by by_cases h : i = j <;> simp [h]
theorem dec_str (i j : Str) : decide (V.str i = V.str j) = decide (i = j) := by by_cases h : i = j <;> simp [h]
theorem s_eqI {i j : Int} (q : Q (.bl (decide (i = j))) H) : rEq (.int i) (.int j) H Q := ⟨rfl, by rw [dec_int]; exact q⟩
theorem s_neI {i j : Int} (q : Q (.bl (!decide (i = j))) H) : rNe (.int i) (.int j) H Q := ⟨rfl, by rw [dec_int]; exact q⟩
theorem s_eqS {i j : Str} (q : Q (.bl (decide (i = j))) H) : rEq (.str i) (.str j) H Q := ⟨rfl, by rw [dec_str]; exact q⟩
theorem s_neS {i j : Str} (q : Q (.bl (!decide (i = j))) H) : rNe (.str i) (.str j) H Q := ⟨rfl, by rw [dec_str]; exact q⟩
theorem s_chain {r' : R2} {tc : TE} (h : ta σ H fun x H1 => tb σ H1 fun y H2 => r x y H2 fun z H3 => ∃ k, z = .bl k ∧ if k = true then tc σ H3 fun u H4 => r' y u H4 Q else Q (.bl false) H3) : tChain r r' ta tb tc σ H Q := by
  unfold tChain; exact h
theorem s_par3 {i j l : Nat} {ta : TA} {D : Ends} (h : ta σ H fun vs H1 => ∃ u v w, vs = [u, v, w] ∧ D.nx (((σ.set i (some u)).set j (some v)).set l (some w)) H1) : tPar3 i j l ta D σ H := h
theorem s_par {i j : Nat} {ta : TA} {D : Ends} (h : ta σ H fun vs H1 => ∃ v w, vs = [v, w] ∧ D.nx ((σ.set i (some v)).set j (some w)) H1) : tPar i j ta D σ H := h
theorem s_v2 {x y : V} {R : V → V → Prop} (h : R x y) : ∃ a b, [x, y] = [a, b] ∧ R a b := ⟨x, y, rfl, h⟩
theorem s_v3 {x y z : V} {R : V → V → V → Prop} (h : R x y z) : ∃ a b c, [x, y, z] = [a, b, c] ∧ R a b c := ⟨x, y, z, rfl, h⟩
theorem s_tup {t : TA} (h : t σ H fun xs H1 => xs.length ≤ sizeLine ∧ ∀ p, H1 p = none → Q (.ref p) (upd H1 p (.tup xs))) : tTup t σ H Q := h
theorem s_lst {t : TA} (h : t σ H fun xs H1 => xs.length ≤ sizeLine ∧ ∀ p, H1 p = none → Q (.ref p) (upd H1 p (.lst xs))) : tLst t σ H Q := h
theorem s_nil {Q : List V → Hp → Prop} (q : Q [] H) : tNil σ H Q := q
theorem s_cons {t : TA} {Q : List V → Hp → Prop} (h : ta σ H fun x H1 => t σ H1 fun xs H2 => Q (x :: xs) H2) : tCons ta t σ H Q := h
theorem s_call {sp : Sp} {dvs : List V} {E : XK} {t : TA} (h : t σ H fun vs H1 => sp (vs ++ dvs) H1 Q E) : tCall sp dvs E t σ H Q := h
theorem s_callK0 {sp : Sp} {gV : List V → List V → List V} {E : XK} {t : TA} (h : t σ H fun zs H1 => sp (gV [] zs) H1 Q E) : tCallK0 sp gV E t σ H Q := h
theorem s_callK {sp : Sp} {gV : List V → List V → List V} {E : XK} {t tk : TA} (h : t σ H fun vs H1 => tk σ H1 fun zs H2 => sp (gV vs zs) H2 Q E) : tCallK sp gV E t tk σ H Q := h
theorem s_bits (h : ta σ H fun x H1 => ∃ i, x = .int i ∧ Q (.int (Builtin.Int.intBits i : Nat)) H1) : tBits ta σ H Q := h
theorem s_i {i : Int} {R : Int → Prop} (h : R i) : ∃ j, V.int i = V.int j ∧ R j := ⟨i, rfl, h⟩
theorem s_bm {T : String} {r : V → List V → Hp → VK → Prop} {to : TE} {t : TA} (h : to σ H fun x H1 => tyV K T x H1 ∧ t σ H1 fun xs H2 => r x xs H2 Q) : tBM K T r to t σ H Q := h
theorem s_bm0 {T : String} {r : V → List V → Hp → VK → Prop} {to : TE} (h : to σ H fun x H1 => tyV K T x H1 ∧ r x [] H1 Q) : tBM0 K T r to σ H Q := h
theorem s_m1 {r : V → List V → Hp → VK → Prop} (h : ta σ H fun x H1 => (∃ a, x = .str a) ∧ tb σ H1 fun y H2 => r x [y] H2 Q) : tM1 r ta tb σ H Q := h
theorem s_cb {r : List V → Hp → VK → Prop} {t : TA} (h : t σ H fun vs H1 => r vs H1 Q) : tCB r t σ H Q := h
theorem s_test {Q : Bool → Hp → Prop} {t : TE} (h : t σ H fun x H' => ∃ k, x = .bl k ∧ Q k H') : tTest t σ H Q := h
theorem s_tB {Q : Bool → Hp → Prop} {t : TE} (h : t σ H fun x H' => ∃ k, x = .bl k ∧ Q k H') : tB t σ H Q := h
theorem s_bl {k : Bool} {Q : Bool → Hp → Prop} (q : Q k H) : ∃ k', V.bl k = .bl k' ∧ Q k' H := ⟨k, rfl, q⟩
theorem s_not {Q : Bool → Hp → Prop} {t : TT} (h : t σ H fun c H1 => Q (!c) H1) : tNot t σ H Q := h
theorem s_and {Q : Bool → Hp → Prop} {t u : TT} (h : t σ H fun c H1 => if c = true then u σ H1 Q else Q false H1) : tAnd t u σ H Q := h
theorem s_or {Q : Bool → Hp → Prop} {t u : TT} (h : t σ H fun c H1 => if c = true then Q true H1 else u σ H1 Q) : tOr t u σ H Q := h
theorem s_un {r : V → Hp → VK → Prop} (h : ta σ H fun x H1 => r x H1 Q) : tUn r ta σ H Q := h
theorem s_U {g : Int → V} {i : Int} (q : Q (g i) H) : rU g (.int i) H Q := ⟨i, rfl, q⟩
theorem s_int1 {i : Int} (q : Q (.int i) H) : rInt1 [.int i] H Q := .inl ⟨i, rfl, q⟩
theorem s_int1b {b : Bool} (q : Q (.int (if b then 1 else 0)) H) : rInt1 [.bl b] H Q := .inr ⟨b, rfl, q⟩
theorem s_ixL {p : Addr} {xs : List V} {i : Int} (h : SqL K H p xs) (a : atI xs i = some v) (q : Q v H) : rIxL K (.ref p) (.int i) H Q := ⟨p, xs, i, v, rfl, rfl, h, a, q⟩
theorem s_ixT {p : Addr} {xs : List V} {i : Int} (h : SqT K H p xs) (a : atI xs i = some v) (q : Q v H) : rIxT K (.ref p) (.int i) H Q := ⟨p, xs, i, v, rfl, rfl, h, a, q⟩
theorem s_len {p : Addr} {xs : List V} (h : SqL K H p xs) (q : Q (.int xs.length) H) : rLen K [V.ref p] H Q := ⟨p, xs, rfl, .inl h, q⟩
theorem s_lenT {p : Addr} {xs : List V} (h : SqT K H p xs) (q : Q (.int xs.length) H) : rLen K [V.ref p] H Q := ⟨p, xs, rfl, .inr h, q⟩
theorem s_max2 {i j : Int} (q : Q (.int (if j > i then j else i)) H) : rMax2 [.int i, .int j] H Q := ⟨i, j, rfl, q⟩
theorem s_min2 {i j : Int} (q : Q (.int (if j < i then j else i)) H) : rMin2 [.int i, .int j] H Q := ⟨i, j, rfl, q⟩
theorem s_isi {v : V} {n : String} {t : String} {b : Bool} (h : TyX K H v (.type t)) (e : kitB t n = some b) (q : Q (.bl b) H) : rIsi K [v, .ty n] H Q := ⟨v, .ty n, .type t, .type n, b, rfl, .ty n, h, kit_ty e, q⟩
theorem s_eqD {d e : PyData} (h1 : Dp K H x d) (h2 : Dp K H y e) (s1 : SeqAt.shaped d = true) (s2 : SeqAt.shaped e = true) (q : Q (.bl (PyData.eqv d e)) H) : rEqD K x y H Q := ⟨d, e, h1, h2, s1, s2, q⟩
theorem s_andV {c : Bool} (h : if c = true then tb σ H Q else Q (.bl false) H) : ∃ c', V.bl c = .bl c' ∧ if c' = true then tb σ H Q else Q (.bl false) H := ⟨c, rfl, h⟩
theorem s_andV0 (h : ta σ H fun x H1 => ∃ c, x = .bl c ∧ if c = true then tb σ H1 Q else Q (.bl false) H1) : tAndV ta tb σ H Q := h
theorem s_orV0 (h : ta σ H fun x H1 => ∃ c, x = .bl c ∧ if c = true then Q (.bl true) H1 else tb σ H1 Q) : tOrV ta tb σ H Q := h
theorem s_notV (h : ta σ H fun x H1 => ∃ c, x = .bl c ∧ Q (.bl (!c)) H1) : tNotV ta σ H Q := h
theorem s_b {c : Bool} {R : Bool → Prop} (h : R c) : ∃ c', V.bl c = V.bl c' ∧ R c' := ⟨c, rfl, h⟩
theorem s_gtup {n : Nat} {t : TGs} {a : Addr} {xs : List V} {R : L2.St → Hp → Prop} (h : SqT K H a xs) (e : xs.length = n) (q : t xs σ H R) : gTup K n t (.ref a) σ H R := ⟨a, xs, rfl, h, e, q⟩
theorem s_gcons {t : TG} {u : TGs} {r : List V} {R : L2.St → Hp → Prop} (q : t v σ H fun σ' H' => u r σ' H' R) : gCons t u (v :: r) σ H R := ⟨v, r, rfl, q⟩
theorem s_gnil {R : L2.St → Hp → Prop} (q : R σ H) : gNil [] σ H R := ⟨rfl, q⟩
theorem s_gsub {to ti : TE} {t : TSet} {R : L2.St → Hp → Prop} (h : to σ H fun o H1 => ti σ H1 fun i H2 => t o i v H2 fun H3 => R σ H3) : gSub to ti t v σ H R := h
theorem s_setL {p : Addr} {xs : List V} {i : Int} {j : Nat} {R : Hp → Prop} (h : H p = some (.lst xs)) (e : ixN xs.length i = some j) (q : R (upd H p (.lst (xs.set j v)))) : rSetL (.ref p) (.int i) v H R := ⟨p, xs, i, j, rfl, rfl, h, e, q⟩
theorem s_ifE {t : TT} (h : t σ H fun c H1 => if c = true then ta σ H1 Q else tb σ H1 Q) : tIf t ta tb σ H Q := h
variable {D : Ends} {t u : TS}
theorem s_seq (h : t { D with nx := u D } σ H) : tSeq t u D σ H := h
theorem s_next (h : D.nx σ H) : tNext D σ H := h
theorem s_asg {g : TG} (h : ta σ H fun x H1 => g x σ H1 D.nx) : tAsg ta g D σ H := h
theorem s_gname {R : L2.St → Hp → Prop} (h : R (σ.set i (some v)) H) : gName i v σ H R := h
theorem s_ret (h : ta σ H D.rt) : tRet ta D σ H := h
theorem s_if {c : TT} (h : c σ H fun b H1 => if b = true then t D σ H1 else u D σ H1) : tIfS c t u D σ H := h
theorem s_drop (h : ta σ H fun _ H1 => D.nx σ H1) : tDrop ta D σ H := h
/-- a loop over what stands -/
def forT (J : It) (g : TG) (tb : TS) : TS := tFor (fun _ H R => R J H) g tb
theorem s_for {wi : TI} {g : TG} {tb : TS} (h : wi σ H fun J H1 => forT J g tb D σ H1) : tFor wi g tb D σ H := h
theorem s_iR1 {ta : TA} {R : It → Hp → Prop} (h : ta σ H fun vs H1 => ∃ n : Int, vs = [.int n] ∧ -(2 ^ 62) ≤ n ∧ n < 2 ^ 62 ∧ R (Itr 0 n.toNat) H1) : iRng1 ta σ H R := h
theorem s_iR2 {ta : TA} {R : It → Hp → Prop} (h : ta σ H fun vs H1 => ∃ m n : Int, vs = [.int m, .int n] ∧ (-(2 ^ 62) ≤ m ∧ m < 2 ^ 62 ∧ -(2 ^ 62) ≤ n ∧ n < 2 ^ 62) ∧ R (Itr m (n - m).toNat) H1) : iRng2 ta σ H R := h
theorem s_iL {R : It → Hp → Prop} (h : ta σ H fun x H1 => ∃ a, x = .ref a ∧ (∃ xs, SqL K H1 a xs) ∧ R (Itl K a) H1) : iList K ta σ H R := h
theorem s_iT {R : It → Hp → Prop} (h : ta σ H fun x H1 => ∃ a, x = .ref a ∧ (∃ xs, SqT K H1 a xs) ∧ R (Itt K a) H1) : iTup K ta σ H R := h
theorem s_iS {R : It → Hp → Prop} (h : ta σ H fun x H1 => ∃ z, x = .str z ∧ R (Its z) H1) : iStr ta σ H R := h
theorem forW {J : It} {n : Nat} {G : Hp → Prop} {Y : Nat → Hp → V → Hp → Prop} {g : TG} {tb : TS} (w : Walk J n G Y) (Pv : Nat → L2.St → Hp → Prop) (h0 : Pv 0 σ H) (hG : ∀ i σ H, i ≤ n → Pv i σ H → G H)
    (hs : ∀ i x σ H H', i < n → Pv i σ H → Y i H x H' → g x σ H' fun σ2 H2 => tb { D with nx := Pv (i + 1), ct := Pv (i + 1), bk := D.nx } σ2 H2) (hd : ∀ σ H, Pv n σ H → D.nx σ H) : forT J g tb D σ H := for_it w Pv h0 hG hs hd
theorem forR {lo : Int} {n : Nat} {g : TG} {tb : TS} (Pv : Nat → L2.St → Hp → Prop) (h0 : Pv 0 σ H) (hs : ∀ i σ H, i < n → Pv i σ H → g (.int (lo + i)) σ H fun σ2 H2 => tb { D with nx := Pv (i + 1), ct := Pv (i + 1), bk := D.nx } σ2 H2)
    (hd : ∀ σ H, Pv n σ H → D.nx σ H) : forT (Itr lo n) g tb D σ H := for_range Pv h0 hs hd
theorem forL {a : Addr} {xs : List V} {g : TG} {tb : TS} (Pv : Nat → L2.St → Hp → Prop) (h0 : Pv 0 σ H) (hl : ∀ i σ H, i ≤ xs.length → Pv i σ H → SqL K H a xs)
    (hs : ∀ i x σ H, xs[i]? = some x → Pv i σ H → g x σ H fun σ2 H2 => tb { D with nx := Pv (i + 1), ct := Pv (i + 1), bk := D.nx } σ2 H2) (hd : ∀ σ H, Pv xs.length σ H → D.nx σ H) : forT (Itl K a) g tb D σ H := for_list Pv h0 hl hs hd
/-- a comprehension over what stands -/
def lcT (J : It) (g : TG) (tt : TT) (te : TE) (vs : List Nat) : TE := tLc (fun _ H R => R J H) g tt te vs
theorem s_lc {wi : TI} {g : TG} {tt : TT} {te : TE} {vs : List Nat} (h : wi σ H fun J H1 => lcT J g tt te vs σ H1 Q) : tLc wi g tt te vs σ H Q := h
theorem s_sl {r : V → Option Int → Option Int → Hp → VK → Prop} {tl th : TO} (h : ta σ H fun x H1 => tl σ H1 fun l H2 => th σ H2 fun u H3 => r x l u H3 Q) : tSl r ta tl th σ H Q := h
theorem s_part {R : Option Int → Hp → Prop} (h : ta σ H fun x H1 => ∃ i, x = .int i ∧ R (some i) H1) : tPart ta σ H R := h
theorem s_nopart {R : Option Int → Hp → Prop} (h : R none H) : tNoPart σ H R := h
theorem s_slL {p : Addr} {xs : List V} {l u : Option Int} (h : SqL K H p xs) (q : ∀ p', H p' = none → Q (.ref p') (upd H p' (.lst (cutV xs l u)))) : rSlL K (.ref p) l u H Q := ⟨p, xs, rfl, h, q⟩
theorem s_iR3 {ta : TA} {R : It → Hp → Prop} (h : ta σ H fun vs H1 => ∃ (i j c : Int) (n : Nat), vs = [.int i, .int j, .int c] ∧ RgC i j c n ∧ R (Itc i c n) H1) : iRng3 ta σ H R := h
theorem rgc_up {L k : Int} (hL : 0 ≤ L) (hL2 : L < 2 ^ 62) (hk : 0 < k) (hk2 : k < 1073741824) : RgC 0 L k ((L + k - 1) / k).toNat := by
  have e : Builtin.Range.rangeSize 0 L k = (((L + k - 1) / k).toNat : Int) := by
    unfold Builtin.Range.rangeSize
    rw [if_pos hk]
    have h0 : 0 ≤ (L + k - 1) / k := Int.ediv_nonneg (by omega) (by omega)
    split
    · rw [show L + k - 1 = (L - 0 - 1) + k by omega, Int.add_ediv_of_dvd_right (Int.dvd_refl k), Int.ediv_self (by omega)]
      have : 0 ≤ (L - 0 - 1) / k := Int.ediv_nonneg (by omega) (by omega)
      omega
    · have : L = 0 := by omega
      subst this
      rw [Int.ediv_eq_zero_of_lt (by omega) (by omega)]; rfl
  refine ⟨by omega, by omega, ?_, e⟩
  have hb : (L + k - 1) / k ≤ L + k - 1 := Int.ediv_le_self _ (by omega)
  unfold Builtin.Range.small
  rw [e]
  simp only [Builtin.Range.rangeFitsLong, Bool.and_eq_true, Bool.or_eq_true, decide_eq_true_eq, beq_iff_eq, show (k > 0) = True from eq_true hk, if_true]
  omega
theorem s_wipe {σ2 : L2.St} {vs : List Nat} {R : Prop} (h : wipe σ2 vs = wipe σ vs) (q : R) : wipe σ2 vs = wipe σ vs ∧ R := ⟨h, q⟩
theorem s_yes {Q : Bool → Hp → Prop} (q : Q true H) : tYes σ H Q := q
/-- within a comprehension: what has been made so far stands at D -/
structure LcP (S : Addr → Prop) (F H : Hp) (Dd : Addr) (R : Nat → List V → Hp → Hp → Prop) (i : Nat) (Hc : Hp) : Prop where
  ex : ∃ Fc acc, Stp S F H Fc Hc ∧ Fc Dd = none ∧ Hc Dd = some (.lst acc) ∧ acc.length ≤ i ∧ R i acc Fc Hc
  fresh : H Dd = none
theorem lcW {J : It} {n : Nat} {G : Hp → Prop} {Y : Nat → Hp → V → Hp → Prop} {g : TG} {tt : TT} {te : TE} {vs : List Nat} (w : Walk J n G Y) (S : Addr → Prop) (hF : Same F H) (hS : ∀ b, S b → ∃ o, H b = some o)
    (hG : ∀ F1 H1, Stp S F H F1 H1 → G H1) (R : Nat → List V → Hp → Hp → Prop) (hR : ∀ i acc F1 H1 d o, ¬ S d → F1 d = none → Stp S F H F1 H1 → R i acc F1 H1 → R i acc F1 (upd H1 d o)) (h0 : R 0 [] F H)
    (hs : ∀ i x acc d F1 H1 H2, i < n → Y i H1 x H2 → H d = none → ¬ S d → Stp S F H F1 H1 → F1 d = none → H1 d = some (.lst acc) → acc.length ≤ i → R i acc F1 H1 → g x (wipe σ vs) H2 fun σ2 H3 => wipe σ2 vs = wipe σ vs ∧ tt σ2 H3 fun b H4 =>
      if b = true then te σ2 H4 fun y H5 => ∃ acc', H5 d = some (.lst acc') ∧ acc'.length < sizeLine ∧ LcP S F H d R (i + 1) (upd H5 d (.lst (acc' ++ [y]))) else LcP S F H d R (i + 1) H4)
    (hd : ∀ d acc F0 F1 H1, Stp S F H F0 H1 → H d = none → F0 d = none → F1 = upd F0 d (.lst acc) → Stp S F H F1 H1 → acc.length ≤ n → R n acc F0 H1 → Q (.ref d) H1) : lcT J g tt te vs σ H Q := by
  intro d hd0
  have nS : ¬ S d := fun z => by
    obtain ⟨o, e⟩ := hS d z
    rw [hd0] at e; cases e
  refine lc_it w (LcP S F H d R) ⟨⟨F, [], Stp.cell hF hd0, hF.free hd0, upd_same, Nat.le_refl _, hR 0 [] F H d _ nS (hF.free hd0) (.rfl' hF) h0⟩, hd0⟩ (fun i H1 _ p => ?_) (fun i x H1 H2 hi p y => ?_) (fun H1 p => ?_)
  · obtain ⟨⟨Fc, acc, st, _⟩, _⟩ := p
    exact hG _ _ st
  · obtain ⟨⟨Fc, acc, st, f0, e, hl, r⟩, _⟩ := p
    exact hs i x acc d Fc H1 H2 hi y hd0 nS st f0 e hl r
  · obtain ⟨⟨Fc, acc, st, f0, e, hl, r⟩, _⟩ := p
    exact hd d acc Fc _ H1 st hd0 f0 rfl (st.freeze hd0 e f0) hl r
theorem lc_end {S : Addr → Prop} {R : Nat → List V → Hp → Hp → Prop} {i : Nat} {acc : List V} {d : Addr} {F1 H1 F4 H4 : Hp} {y : V} (hN : H d = none) (nS : ¬ S d) (st : Stp S F H F1 H1) (f0 : F1 d = none) (e : H1 d = some (.lst acc)) (hl : acc.length ≤ i) (hi : i < 100000)
    (s4 : Stp S F1 H1 F4 H4) (r : R (i + 1) (acc ++ [y]) F4 (upd H4 d (.lst (acc ++ [y])))) : ∃ acc', H4 d = some (.lst acc') ∧ acc'.length < sizeLine ∧ LcP S F H d R (i + 1) (upd H4 d (.lst (acc' ++ [y]))) :=
  ⟨acc, s4.keep _ _ nS e, Nat.lt_of_lt_of_le (Nat.lt_of_le_of_lt hl hi) (by decide), ⟨⟨F4, acc ++ [y], (st.trans s4).wrNew hN ((s4.fo _ _ e).trans f0), (s4.fo _ _ e).trans f0, upd_same, by simp; omega, r⟩, hN⟩⟩
theorem lc_skip {S : Addr → Prop} {R : Nat → List V → Hp → Hp → Prop} {i : Nat} {acc : List V} {d : Addr} {F1 H1 F4 H4 : Hp} (hN : H d = none) (nS : ¬ S d) (st : Stp S F H F1 H1) (f0 : F1 d = none) (e : H1 d = some (.lst acc)) (hl : acc.length ≤ i)
    (s4 : Stp S F1 H1 F4 H4) (r : R (i + 1) acc F4 H4) : LcP S F H d R (i + 1) H4 := ⟨⟨F4, acc, st.trans s4, (s4.fo _ _ e).trans f0, s4.keep _ _ nS e, by omega, r⟩, hN⟩
theorem ifd {p A B : Prop} [Decidable p] (a : p → A) (b : ¬ p → B) : if decide p = true then A else B := by
  by_cases h : p
  · rw [if_pos (decide_eq_true h)]; exact a h
  · rw [if_neg (by simp [h])]; exact b h
theorem itNF {A B : Prop} (h : B) : if (!true) = true then A else B := h
theorem itNT {A B : Prop} (h : A) : if (!false) = true then A else B := h
theorem ifn {p A B : Prop} [Decidable p] (a : p → B) (b : ¬ p → A) : if (!decide p) = true then A else B := by
  by_cases h : p
  · rw [if_neg (by simp [h])]; exact a h
  · rw [if_pos (by simp [h])]; exact b h
end
theorem eqv_ints (u v : Int) : PyData.eqv (.tuple [.int u, .int v]) (.tuple [.int u, .int v]) = true := by simp [PyData.eqv, PyData.eqvAll]
/-! ### tests that may be weakened (for while) -/
def MonE (t : TE) : Prop := ∀ σ H (Q Q' : VK), (∀ v H1, Q v H1 → Q' v H1) → t σ H Q → t σ H Q'
def MonT (t : TT) : Prop := ∀ σ H (Q Q' : Bool → Hp → Prop), (∀ b H1, Q b H1 → Q' b H1) → t σ H Q → t σ H Q'
def MonA (t : TA) : Prop := ∀ σ H (Q Q' : List V → Hp → Prop), (∀ vs H1, Q vs H1 → Q' vs H1) → t σ H Q → t σ H Q'
def MonR (r : R2) : Prop := ∀ x y H (Q Q' : VK), (∀ v H1, Q v H1 → Q' v H1) → r x y H Q → r x y H Q'
theorem mon_var {i : Nat} : MonE (tVar i) := fun _ _ _ _ h ⟨v, e, q⟩ => ⟨v, e, h _ _ q⟩
theorem mon_c {v : V} : MonE (tC v) := fun _ _ _ _ h q => h _ _ q
theorem mon_op {r : R2} {a b : TE} (hr : MonR r) (ha : MonE a) (hb : MonE b) : MonE (tOp r a b) := fun σ _ _ _ h q => ha _ _ _ _ (fun x H1 q1 => hb _ _ _ _ (fun y H2 q2 => hr _ _ _ _ _ h q2) q1) q
theorem mon_I0 {g : Int → Int → V} : MonR (rI0 g) := fun _ _ _ _ _ h ⟨i, j, e1, e2, q⟩ => ⟨i, j, e1, e2, h _ _ q⟩
theorem mon_I {C : Int → Int → Prop} {g : Int → Int → V} : MonR (rI C g) := fun _ _ _ _ _ h ⟨i, j, e1, e2, c, q⟩ => ⟨i, j, e1, e2, c, h _ _ q⟩
theorem mon_eq : MonR rEq := fun _ _ _ _ _ h ⟨e, q⟩ => ⟨e, h _ _ q⟩
theorem mon_ne : MonR rNe := fun _ _ _ _ _ h ⟨e, q⟩ => ⟨e, h _ _ q⟩
theorem mon_ixL {K : PySem.W.Frag} : MonR (rIxL K) := fun _ _ _ _ _ h ⟨p, xs, i, v, e1, e2, s, a, q⟩ => ⟨p, xs, i, v, e1, e2, s, a, h _ _ q⟩
theorem mon_nil : MonA tNil := fun _ _ _ _ h q => h _ _ q
theorem mon_cons {a : TE} {t : TA} (ha : MonE a) (ht : MonA t) : MonA (tCons a t) := fun σ _ _ _ h q => ha _ _ _ _ (fun x H1 q1 => ht _ _ _ _ (fun xs H2 q2 => h _ _ q2) q1) q
theorem mon_len {K : PySem.W.Frag} {t : TA} (ht : MonA t) : MonE (tCB (rLen K) t) := fun σ _ _ _ h q => ht _ _ _ _ (fun vs H1 ⟨p, ys, e, s, q1⟩ => ⟨p, ys, e, s, h _ _ q1⟩) q
theorem mon_test {a : TE} (ha : MonE a) : MonT (tTest a) := fun σ _ _ _ h q => ha _ _ _ _ (fun x H1 ⟨k, e, q1⟩ => ⟨k, e, h _ _ q1⟩) q
theorem mon_and {a b : TT} (ha : MonT a) (hb : MonT b) : MonT (tAnd a b) := fun σ _ _ _ h q => ha _ _ _ _ (fun c H1 q1 => by
  cases c with
  | true => exact hb _ _ _ _ h q1
  | false => exact h _ _ q1) q
theorem whileM {D : Ends} {σ : L2.St} {H : Hp} {c : TT} {tb : TS} (m : MonT c) (Pv : L2.St → Hp → Prop) (μ : L2.St → Hp → Nat) (h0 : Pv σ H)
    (hs : ∀ σ H, Pv σ H → c σ H fun b H1 => if b = true then tb { D with nx := fun σ' H' => Pv σ' H' ∧ μ σ' H' < μ σ H, ct := fun σ' H' => Pv σ' H' ∧ μ σ' H' < μ σ H, bk := D.nx } σ H1 else D.nx σ H1) : tWhile c tb D σ H := while_by Pv μ h0 hs m
/-! ### data compared: lists and tuples of numbers -/
open PyData in
theorem depthAll_ints : ∀ ns : List Int, depthAll (ns.map PyData.int) ≤ 1
  | [] => by simp [depthAll]
  | n :: ns => by
    have := depthAll_ints ns
    simp only [List.map_cons, depthAll, depth]
    omega
open PyData in
theorem canLay_ints : ∀ ns : List Int, canLayAll0 (ns.map PyData.int) = true
  | [] => rfl
  | n :: ns => by simp [canLayAll0, canLay0, canLay_ints ns]
theorem shaped_ints (ns : List Int) : SeqAt.shaped (.list (ns.map .int)) = true := by
  have h := depthAll_ints ns
  have e : (PyData.list (ns.map .int)).depth = PyData.depthAll (ns.map .int) + 1 := by rw [PyData.depth]
  exact Bool.and_eq_true_iff.mpr ⟨by rw [PyData.canLay0]; exact canLay_ints ns, decide_eq_true (by rw [e]; omega)⟩
theorem shaped_intsT (ns : List Int) : SeqAt.shaped (.tuple (ns.map .int)) = true := by
  have h := depthAll_ints ns
  have e : (PyData.tuple (ns.map .int)).depth = PyData.depthAll (ns.map .int) + 1 := by rw [PyData.depth]
  exact Bool.and_eq_true_iff.mpr ⟨by rw [PyData.canLay0]; exact canLay_ints ns, decide_eq_true (by rw [e]; omega)⟩
open PyData in
theorem eqvAll_ints : ∀ ns ms : List Int, eqvAll (ns.map PyData.int) (ms.map PyData.int) = decide (ns = ms)
  | [], [] => rfl
  | [], _ :: _ => by simp [eqvAll]
  | _ :: _, [] => by simp [eqvAll]
  | n :: ns, m :: ms => by
    simp only [List.map_cons, eqvAll, eqv, eqvAll_ints ns ms]
    by_cases h : n = m <;> by_cases h2 : ns = ms <;> simp [h, h2]
theorem eqv_intsL (ns ms : List Int) : PyData.eqv (.list (ns.map .int)) (.list (ms.map .int)) = decide (ns = ms) := by rw [PyData.eqv, eqvAll_ints]
theorem eqv_intsT (ns ms : List Int) : PyData.eqv (.tuple (ns.map .int)) (.tuple (ms.map .int)) = decide (ns = ms) := by rw [PyData.eqv, eqvAll_ints]
theorem dp_all_ints {K : PySem.W.Frag} {H : Hp} : ∀ ns : List Int, DpAll K H (ns.map V.int) (ns.map .int)
  | [] => .nil
  | n :: ns => .cons (.int n) (dp_all_ints ns)
theorem dp_ints {K : PySem.W.Frag} {H : Hp} {a : Addr} {ns : List Int} (h : SqL K H a (ns.map V.int)) : Dp K H (.ref a) (.list (ns.map .int)) := .lst h (dp_all_ints ns)
theorem dp_intsT {K : PySem.W.Frag} {H : Hp} {a : Addr} {ns : List Int} (h : SqT K H a (ns.map V.int)) : Dp K H (.ref a) (.tuple (ns.map .int)) := .tup h (dp_all_ints ns)
/-- two lists of numbers compared -/
theorem s_eqL {K : PySem.W.Frag} {H : Hp} {Q : VK} {a b : Addr} {ns ms : List Int} (h1 : SqL K H a (ns.map V.int)) (h2 : SqL K H b (ms.map V.int)) (q : Q (.bl (decide (ns = ms))) H) : rEqD K (.ref a) (.ref b) H Q :=
  s_eqD (dp_ints h1) (dp_ints h2) (shaped_ints _) (shaped_ints _) (by rw [eqv_intsL]; exact q)
theorem s_neL {K : PySem.W.Frag} {H : Hp} {Q : VK} {a b : Addr} {ns ms : List Int} (h1 : SqL K H a (ns.map V.int)) (h2 : SqL K H b (ms.map V.int)) (q : Q (.bl (!decide (ns = ms))) H) : rNeD K (.ref a) (.ref b) H Q :=
  ⟨_, _, dp_ints h1, dp_ints h2, shaped_ints _, shaped_ints _, by rw [eqv_intsL]; exact q⟩
theorem s_eqT {K : PySem.W.Frag} {H : Hp} {Q : VK} {a b : Addr} {ns ms : List Int} (h1 : SqT K H a (ns.map V.int)) (h2 : SqT K H b (ms.map V.int)) (q : Q (.bl (decide (ns = ms))) H) : rEqD K (.ref a) (.ref b) H Q :=
  s_eqD (dp_intsT h1) (dp_intsT h2) (shaped_intsT _) (shaped_intsT _) (by rw [eqv_intsT]; exact q)
theorem s_neT {K : PySem.W.Frag} {H : Hp} {Q : VK} {a b : Addr} {ns ms : List Int} (h1 : SqT K H a (ns.map V.int)) (h2 : SqT K H b (ms.map V.int)) (q : Q (.bl (!decide (ns = ms))) H) : rNeD K (.ref a) (.ref b) H Q :=
  ⟨_, _, dp_intsT h1, dp_intsT h2, shaped_intsT _, shaped_intsT _, by rw [eqv_intsT]; exact q⟩
theorem rep_int (n k : Nat) (b : Int) : (List.replicate n [V.int b]).flatten = (List.replicate n b).map V.int := by induction n <;> simp_all [List.replicate_succ]
theorem get_int {ns : List Int} {i : Nat} (h : i < ns.length) : (ns.map V.int)[i]? = some (V.int ns[i]) := by simp [h]
/-- what a call left behind: a new thing that stands still from now on -/
theorem Stp.got {S : Addr → Prop} {F H H' : Hp} {p : Addr} {o : HO} (h : Same F H) (s : Same H H') (hn : H p = none) (hp : H' p = some o) : Stp S F H (upd F p o) H' := by
  have fp : F p = none := h.free hn
  refine ⟨fun b u e => by rw [upd_ne (ne_of_none e fp)]; exact e, fun b u e => ?_, fun b u e => by rw [upd_ne (ne_of_none e hn)], fun b u _ e => s b u e, fun b u e => ⟨u, s b u e⟩⟩
  by_cases q : b = p
  · subst q; rw [upd_same] at e; cases e; exact hp
  · rw [upd_ne q] at e; exact s b u (h b u e)
open PyData in
theorem depthAll_bools : ∀ ns : List Bool, depthAll (ns.map PyData.bool) ≤ 1
  | [] => by simp [depthAll]
  | n :: ns => by
    have := depthAll_bools ns
    simp only [List.map_cons, depthAll, depth]
    omega
open PyData in
theorem canLay_bools : ∀ ns : List Bool, canLayAll0 (ns.map PyData.bool) = true
  | [] => rfl
  | n :: ns => by simp [canLayAll0, canLay0, canLay_bools ns]
theorem shaped_bools (ns : List Bool) : SeqAt.shaped (.list (ns.map .bool)) = true := by
  have h := depthAll_bools ns
  have e : (PyData.list (ns.map .bool)).depth = PyData.depthAll (ns.map .bool) + 1 := by rw [PyData.depth]
  exact Bool.and_eq_true_iff.mpr ⟨by rw [PyData.canLay0]; exact canLay_bools ns, decide_eq_true (by rw [e]; omega)⟩
open PyData in
theorem eqvAll_bools : ∀ ns ms : List Bool, eqvAll (ns.map PyData.bool) (ms.map PyData.bool) = decide (ns = ms)
  | [], [] => rfl
  | [], _ :: _ => by simp [eqvAll]
  | _ :: _, [] => by simp [eqvAll]
  | n :: ns, m :: ms => by
    simp only [List.map_cons, eqvAll, eqv, eqvAll_bools ns ms]
    by_cases h : n = m <;> by_cases h2 : ns = ms <;> simp [h, h2]
theorem eqv_boolsL (ns ms : List Bool) : PyData.eqv (.list (ns.map .bool)) (.list (ms.map .bool)) = decide (ns = ms) := by rw [PyData.eqv, eqvAll_bools]
theorem dp_all_bools {K : PySem.W.Frag} {H : Hp} : ∀ ns : List Bool, DpAll K H (ns.map V.bl) (ns.map .bool)
  | [] => .nil
  | n :: ns => .cons (.bl n) (dp_all_bools ns)
theorem dp_bools {K : PySem.W.Frag} {H : Hp} {a : Addr} {ns : List Bool} (h : SqL K H a (ns.map V.bl)) : Dp K H (.ref a) (.list (ns.map .bool)) := .lst h (dp_all_bools ns)
theorem s_neB {K : PySem.W.Frag} {H : Hp} {Q : VK} {a b : Addr} {ns ms : List Bool} (h1 : SqL K H a (ns.map V.bl)) (h2 : SqL K H b (ms.map V.bl)) (q : Q (.bl (!decide (ns = ms))) H) : rNeD K (.ref a) (.ref b) H Q :=
  ⟨_, _, dp_bools h1, dp_bools h2, shaped_bools _, shaped_bools _, by rw [eqv_boolsL]; exact q⟩
theorem eqV_int (i j : Int) : eqV (.int i) (.int j) = decide (i = j) := by
  show (i == j) = decide (i = j)
  by_cases h : i = j <;> simp [h]
theorem inV_ints (x : Int) (ns : List Int) : inV (.int x) (ns.map V.int) = decide (x ∈ ns) := by
  unfold inV
  induction ns with
  | nil => simp
  | cons n ns ih =>
    rw [List.map_cons, List.any_cons, ih, eqV_int]
    by_cases h : n = x
    · subst h; simp
    · by_cases h2 : x ∈ ns
      · simp [h2]
      · have : ¬ x = n := fun z => h z.symm
        simp [h, h2, this]
theorem flat_ints (ns : List Int) : (ns.map V.int).all flatV = true := by
  rw [List.all_eq_true]; intro v hv
  obtain ⟨n, _, rfl⟩ := List.mem_map.mp hv
  rfl
/-- a number in a list of numbers -/
theorem s_inI {K : PySem.W.Frag} {H : Hp} {Q : VK} {a : Addr} {ns : List Int} {x : Int} (h : SqL K H a (ns.map V.int)) (q : Q (.bl (decide (x ∈ ns))) H) : rIn K false (.int x) (.ref a) H Q :=
  ⟨a, _, rfl, .inl h, rfl, flat_ints ns, by rw [if_neg (by decide), inV_ints]; exact q⟩
theorem cutV_nat (xs : List V) (i j : Nat) : cutV xs (some (i : Int)) (some (j : Int)) = (xs.drop i).take (j - i) := by
  unfold cutV
  rw [HT.sIx_nat, HT.sIx_nat]
  by_cases h : i ≤ xs.length
  · rw [Nat.min_eq_left h]
    by_cases h2 : j ≤ xs.length
    · rw [Nat.min_eq_left h2]
    · rw [Nat.min_eq_right (by omega), List.take_of_length_le (by simp), List.take_of_length_le (by simp; omega)]
  · rw [Nat.min_eq_right (show xs.length ≤ i by omega), List.drop_of_length_le (Nat.le_refl _), List.drop_of_length_le (by omega)]; simp
theorem cutV_from (xs : List V) (i : Nat) : cutV xs (some (i : Int)) none = xs.drop i := by
  unfold cutV
  rw [HT.sIx_nat, HT.sIx_none]
  by_cases h : i ≤ xs.length
  · rw [Nat.min_eq_left h, List.take_of_length_le (by simp)]
  · rw [Nat.min_eq_right (by omega), List.drop_of_length_le (by omega), List.drop_of_length_le (by omega)]; simp
theorem cutV_to (xs : List V) (j : Nat) : cutV xs none (some (j : Int)) = xs.take j := by
  unfold cutV
  rw [HT.sIx_nat, HT.sIx_none]
  by_cases h2 : j ≤ xs.length
  · rw [Nat.min_eq_left h2]; simp
  · rw [Nat.min_eq_right (by omega), List.take_of_length_le (by simp), List.take_of_length_le (by omega)]; simp
/-- values without parts, as data -/
def toD : V → PyData
  | .bl b => .bool b
  | .int i => .int i
  | .str s => .str s
  | _ => .none
def flatW (v : V) : Bool := match v with
  | .non => true
  | .bl _ => true
  | .int _ => true
  | .str s => PyData.strOk s
  | _ => false
theorem dp_flat {K : PySem.W.Frag} {H : Hp} {v : V} (h : flatW v = true) : Dp K H v (toD v) := by
  cases v with
  | non => exact .non
  | bl b => exact .bl b
  | int i => exact .int i
  | str s => exact .str s
  | _ => cases h
theorem dp_flats {K : PySem.W.Frag} {H : Hp} : ∀ {vs : List V}, vs.all flatW = true → DpAll K H vs (vs.map toD)
  | [], _ => .nil
  | v :: vs, h => by
    rw [List.all_cons, Bool.and_eq_true] at h
    exact .cons (dp_flat h.1) (dp_flats h.2)
open PyData in
theorem depthAll_flat : ∀ vs : List V, depthAll (vs.map toD) ≤ 1
  | [] => by simp [depthAll]
  | n :: ns => by
    have := depthAll_flat ns
    have e : depth (toD n) = 0 := by cases n <;> simp [toD, depth]
    simp only [List.map_cons, depthAll, e]
    omega
open PyData in
theorem canLay_flat : ∀ vs : List V, vs.all flatW = true → canLayAll0 (vs.map toD) = true
  | [], _ => rfl
  | n :: ns, h => by
    rw [List.all_cons, Bool.and_eq_true] at h
    have e : canLay0 (toD n) = true := by
      cases n with
      | str s => exact h.1
      | _ => rfl
    simp [canLayAll0, e, canLay_flat ns h.2]
theorem shaped_flatT {vs : List V} (h : vs.all flatW = true) : SeqAt.shaped (.tuple (vs.map toD)) = true := by
  have h1 := depthAll_flat vs
  have e : (PyData.tuple (vs.map toD)).depth = PyData.depthAll (vs.map toD) + 1 := by rw [PyData.depth]
  exact Bool.and_eq_true_iff.mpr ⟨by rw [PyData.canLay0]; exact canLay_flat vs h, decide_eq_true (by rw [e]; omega)⟩
/-- two equal tuples compared -/
theorem s_neTs {K : PySem.W.Frag} {H : Hp} {Q : VK} {a b : Addr} {vs : List V} (h1 : SqT K H a vs) (h2 : SqT K H b vs) (f : vs.all flatW = true) (q : Q (.bl false) H) : rNeD K (.ref a) (.ref b) H Q :=
  ⟨_, _, .tup h1 (dp_flats f), .tup h2 (dp_flats f), shaped_flatT f, shaped_flatT f, by rw [SeqAt.eqv_refl _ (SeqAt.canLay_of_shaped (shaped_flatT f))]; exact q⟩
theorem s_eqTs {K : PySem.W.Frag} {H : Hp} {Q : VK} {a b : Addr} {vs : List V} (h1 : SqT K H a vs) (h2 : SqT K H b vs) (f : vs.all flatW = true) (q : Q (.bl true) H) : rEqD K (.ref a) (.ref b) H Q :=
  ⟨_, _, .tup h1 (dp_flats f), .tup h2 (dp_flats f), shaped_flatT f, shaped_flatT f, by rw [SeqAt.eqv_refl _ (SeqAt.canLay_of_shaped (shaped_flatT f))]; exact q⟩
/-- a written list of one thing, so many times -/
theorem s_rep {H : Hp} {Q : VK} {l : Addr} {v : V} {k : Int} (h : H l = some (.lst [v])) (k1 : k ≤ 100000) (k0 : -100000 ≤ k) (q : ∀ p, H p = none → Q (.ref p) (upd H p (.lst (List.replicate k.toNat v)))) : rRep (.ref l) (.int k) H Q := by
  have e : (List.replicate k.toNat [v]).flatten = List.replicate k.toNat v := by
    generalize k.toNat = n
    induction n with
    | zero => rfl
    | succ n ih => rw [List.replicate_succ, List.flatten_cons, ih]; rfl
  have hz : 1 * k.toNat ≤ sizeLine := by rw [Nat.one_mul]; exact sz (by omega)
  exact ⟨l, k, [v], rfl, rfl, h, by omega, by omega, hz, fun p hp => by rw [e]; exact q p hp⟩
/-- lists of lists of numbers -/
def RowV (K : PySem.W.Frag) (H : Hp) (v : V) (l : List Int) : Prop := ∃ a, v = .ref a ∧ SqL K H a (l.map V.int)
inductive RowsV (K : PySem.W.Frag) (H : Hp) : List V → List (List Int) → Prop
  | nil : RowsV K H [] []
  | cons {v : V} {vs : List V} {l : List Int} {ls : List (List Int)} : RowV K H v l → RowsV K H vs ls → RowsV K H (v :: vs) (l :: ls)
theorem RowsV.dp {K : PySem.W.Frag} {H : Hp} : ∀ {vs : List V} {ls : List (List Int)}, RowsV K H vs ls → DpAll K H vs (ls.map fun l => .list (l.map .int))
  | _, _, .nil => .nil
  | _, _, .cons ⟨a, e, h⟩ r => .cons (e ▸ dp_ints h) r.dp
open PyData in
theorem depthAll_rows : ∀ ls : List (List Int), depthAll (ls.map fun l => PyData.list (l.map .int)) ≤ 2
  | [] => by simp [depthAll]
  | l :: ls => by
    have h1 := depthAll_rows ls
    have h2 := depthAll_ints l
    simp only [List.map_cons, depthAll, depth]
    omega
open PyData in
theorem canLay_rows : ∀ ls : List (List Int), canLayAll0 (ls.map fun l => PyData.list (l.map .int)) = true
  | [] => rfl
  | l :: ls => by simp [canLayAll0, canLay0, canLay_ints, canLay_rows ls]
theorem shaped_rows (ls : List (List Int)) : SeqAt.shaped (.list (ls.map fun l => .list (l.map .int))) = true := by
  have h := depthAll_rows ls
  have e : (PyData.list (ls.map fun l => PyData.list (l.map .int))).depth = PyData.depthAll (ls.map fun l => PyData.list (l.map .int)) + 1 := by rw [PyData.depth]
  exact Bool.and_eq_true_iff.mpr ⟨by rw [PyData.canLay0]; exact canLay_rows ls, decide_eq_true (by rw [e]; omega)⟩
theorem s_eqRows {K : PySem.W.Frag} {H : Hp} {Q : VK} {a b : Addr} {xs ys : List V} {ls : List (List Int)} (h1 : SqL K H a xs) (h2 : SqL K H b ys) (r1 : RowsV K H xs ls) (r2 : RowsV K H ys ls) (q : Q (.bl true) H) : rEqD K (.ref a) (.ref b) H Q :=
  s_eqD (.lst h1 r1.dp) (.lst h2 r2.dp) (shaped_rows ls) (shaped_rows ls) (by rw [SeqAt.eqv_refl _ (SeqAt.canLay_of_shaped (shaped_rows ls))]; exact q)
theorem s_neRows {K : PySem.W.Frag} {H : Hp} {Q : VK} {a b : Addr} {xs ys : List V} {ls : List (List Int)} (h1 : SqL K H a xs) (h2 : SqL K H b ys) (r1 : RowsV K H xs ls) (r2 : RowsV K H ys ls) (q : Q (.bl false) H) : rNeD K (.ref a) (.ref b) H Q :=
  ⟨_, _, .lst h1 r1.dp, .lst h2 r2.dp, shaped_rows ls, shaped_rows ls, by rw [SeqAt.eqv_refl _ (SeqAt.canLay_of_shaped (shaped_rows ls))]; exact q⟩
/-- lists of flat tuples -/
def TupV (K : PySem.W.Frag) (H : Hp) (v : V) (l : List V) : Prop := ∃ a, v = .ref a ∧ SqT K H a l ∧ l.all flatW = true
inductive TupsV (K : PySem.W.Frag) (H : Hp) : List V → List (List V) → Prop
  | nil : TupsV K H [] []
  | cons {v : V} {vs : List V} {l : List V} {ls : List (List V)} : TupV K H v l → TupsV K H vs ls → TupsV K H (v :: vs) (l :: ls)
theorem TupsV.dp {K : PySem.W.Frag} {H : Hp} : ∀ {vs : List V} {ls : List (List V)}, TupsV K H vs ls → DpAll K H vs (ls.map fun l => .tuple (l.map toD))
  | _, _, .nil => .nil
  | _, _, .cons ⟨_, e, h, f⟩ r => .cons (e ▸ .tup h (dp_flats f)) r.dp
open PyData in
theorem depthAll_tups : ∀ ls : List (List V), depthAll (ls.map fun l => PyData.tuple (l.map toD)) ≤ 2
  | [] => by simp [depthAll]
  | l :: ls => by
    have h1 := depthAll_tups ls
    have h2 := depthAll_flat l
    simp only [List.map_cons, depthAll, depth]
    omega
open PyData in
theorem canLay_tups {K : PySem.W.Frag} {H : Hp} : ∀ {vs : List V} {ls : List (List V)}, TupsV K H vs ls → canLayAll0 (ls.map fun l => PyData.tuple (l.map toD)) = true
  | _, _, .nil => rfl
  | _, _, .cons ⟨_, _, _, f⟩ r => by simp [canLayAll0, canLay0, canLay_flat _ f, canLay_tups r]
theorem shaped_tups {K : PySem.W.Frag} {H : Hp} {vs : List V} {ls : List (List V)} (r : TupsV K H vs ls) : SeqAt.shaped (.list (ls.map fun l => .tuple (l.map toD))) = true := by
  have h := depthAll_tups ls
  have e : (PyData.list (ls.map fun l => PyData.tuple (l.map toD))).depth = PyData.depthAll (ls.map fun l => PyData.tuple (l.map toD)) + 1 := by rw [PyData.depth]
  exact Bool.and_eq_true_iff.mpr ⟨by rw [PyData.canLay0]; exact canLay_tups r, decide_eq_true (by rw [e]; omega)⟩
theorem s_eqTups {K : PySem.W.Frag} {H : Hp} {Q : VK} {a b : Addr} {xs ys : List V} {ls : List (List V)} (h1 : SqL K H a xs) (h2 : SqL K H b ys) (r1 : TupsV K H xs ls) (r2 : TupsV K H ys ls) (q : Q (.bl true) H) : rEqD K (.ref a) (.ref b) H Q :=
  s_eqD (.lst h1 r1.dp) (.lst h2 r2.dp) (shaped_tups r1) (shaped_tups r2) (by rw [SeqAt.eqv_refl _ (SeqAt.canLay_of_shaped (shaped_tups r1))]; exact q)
theorem s_neTups {K : PySem.W.Frag} {H : Hp} {Q : VK} {a b : Addr} {xs ys : List V} {ls : List (List V)} (h1 : SqL K H a xs) (h2 : SqL K H b ys) (r1 : TupsV K H xs ls) (r2 : TupsV K H ys ls) (q : Q (.bl false) H) : rNeD K (.ref a) (.ref b) H Q :=
  ⟨_, _, .lst h1 r1.dp, .lst h2 r2.dp, shaped_tups r1, shaped_tups r2, by rw [SeqAt.eqv_refl _ (SeqAt.canLay_of_shaped (shaped_tups r1))]; exact q⟩
/-! ### a list to draw from: [a great number, a number that is stirred] -/
def Src (F H : Hp) (p : Addr) : Prop := Same F H ∧ F p = none ∧ ∃ a b : Int, H p = some (.lst [.int a, .int b]) ∧ 0 ≤ b ∧ b < 2147483647
theorem Src.of {F H H' : Hp} {p : Addr} (h : Src F H p) (s : Same H H') : Src F H' p := let ⟨a, b, x, y, e, z⟩ := h; ⟨a.trans s, b, x, y, s _ _ e, z⟩
theorem Src.wr {F H : Hp} {p : Addr} {x y : Int} (h : Src F H p) (y0 : 0 ≤ y) (y1 : y < 2147483647) : Src F (upd H p (.lst [.int x, .int y])) p :=
  ⟨(Stp.wr (S := S1 p) h.1 rfl h.2.1).fh, h.2.1, x, y, upd_same, y0, y1⟩
theorem Src.weak {F F' H : Hp} {p : Addr} (h : Src F' H p) (s : Same F F') : Src F H p := let ⟨a, b, x⟩ := h; ⟨s.trans a, s.free b, x⟩
theorem Src.new {F H : Hp} {p q : Addr} {o : HO} (h : Src F H p) (hq : H q = none) : Src (upd F q o) (upd H q o) p := by
  obtain ⟨a, b, x, y, e, z⟩ := h
  have n : p ≠ q := ne_of_none e hq
  exact ⟨(Stp.new (S := S0) a hq).fh, by rw [upd_ne n]; exact b, x, y, by rw [upd_ne n]; exact e, z⟩
/-- a cell beside it is written -/
theorem Src.upd {F H : Hp} {p q : Addr} {o : HO} (h : Src F H p) (n : q ≠ p) (fq : F q = none) : Src F (upd H q o) p := by
  obtain ⟨a, b, x, y, e, z⟩ := h
  exact ⟨(Stp.wr (S := S1 q) a rfl fq).fh, b, x, y, by rw [upd_ne n.symm]; exact e, z⟩
theorem Src.dom {F H : Hp} {p : Addr} (h : Src F H p) : ∃ o, H p = some o := let ⟨_, _, x, y, e, _⟩ := h; ⟨_, e⟩
theorem Src.frz {F H : Hp} {p d : Addr} {o : HO} (h : Src F H p) (n : p ≠ d) (fh : Same (L2.upd F d o) H) : Src (L2.upd F d o) H p := by
  obtain ⟨a, b, x, y, e, z⟩ := h
  exact ⟨fh, by rw [upd_ne n]; exact b, x, y, e, z⟩
theorem Src.ne {F H : Hp} {p d : Addr} (h : Src F H p) (hd : H d = none) : p ≠ d := by
  obtain ⟨o, e⟩ := h.dom
  exact ne_of_none e hd
/-- behind a draw: what stands beside the cell is as it was -/
def Drawn (p : Addr) (F H H' : Hp) : Prop := Src F H' p ∧ Stp (S1 p) F H F H'
section SecFmt
open PySem PySem.Spec PyProof.Rows L2
/-- the binary digits of a number that is not negative, as a text -/
def binText (n : Nat) : Str := ⟨((Nat.toDigits 2 n).map Char.toNat).toArray⟩
def fB : Builtin.Float.FormatSpec := { align := 62, type := some 98 }
theorem parseB : Builtin.Float.parseFormatSpec (Str.ofString "b").cps.toList "int" 62 = Except.ok fB := by rfl
section
variable {prog : Program} {w : World} {A : Around} {E : Value → Shared → Prop} {s : Shared}
theorem ite_no {β : Type} {M : Model} {c : Prop} [Decidable c] {x y : Sem β} {Q : β → Shared → Prop} (h : ¬ c) (q : wpAny M A y Q E s) : wpAny M A (if c then x else y) Q E s := by rw [if_neg h]; exact q
theorem field_b {a : Int} {t : Tok} {Q : Value → Shared → Prop} (h0 : 0 ≤ a) (hl : (Nat.toDigits 2 a.natAbs).length ≤ 100000)
    (h : Q (.str (binText a.natAbs) (s.toks + 1)) { s with toks := s.toks + 1 + 1 }) : wpAny (model prog w) A (formatField (.int a t) (Str.ofString "b")) Q E s := by
  show wpAny _ _ (holding [.int a t] (pyFormat (.int a t) (Str.ofString "b"))) Q E s
  refine wpAny_holding ?_
  unfold pyFormat
  refine wpAny_bind (wpAny_mkStr ?_ (by decide))
  refine wpAny_bind (m := callSpecial? (.int a t) (Str.ofString "__format__") [.str (Str.ofString "b") s.toks])
    (wpAny_callSpecial?_slot (name := Str.ofString "__format__") (typeIs_int _ a t) slot_int_format ?_)
  refine wpAny_call (codeAny_call_builtin slot_int_format.plain entry_int_format
    (slot_int_format.check _ _ _ _ _ _ _ _ (typeIs_int _ a t) (args_int_format _ _) ?_))
  have hne : ((Str.ofString "b").length == 0) = false := by decide
  have hasc : (((Str.ofString "b").cps.toList.drop 1).any (· ≥ 128) || ((Str.ofString "b").cps.getD 0 0 ≥ 128 && !([60, 62, 61, 94] : List Nat).contains ((Str.ofString "b").cps.getD 1 0))) = false := by decide
  unfold Builtin.«int.__format__»
  simp only [selfAndOne, noKeywords, Builtin.Int.intOfSelf, asInt?, asStr?, List.isEmpty_nil, if_true, pure_bind, bind_pure, bind_assoc, hne, hasc, Bool.false_eq_true,
    if_false, show (Value.str (Str.ofString "b") s.toks == Value.none) = false from rfl]
  refine wpAny_bind (wpAny_typeNameOf (T := "str") (typeIs_str _ _ _) (by decide) fun _ => ?_)
  first | refine wpAny_bind (wpAny_typeNameOfCut_int ?_) | refine wpAny_bind (wpAny_typeNameOf_int ?_)
  simp only [parseB, fB]
  rw [if_pos (by decide)]
  simp only [Option.getD_some]
  show wpAny _ _ (retStr _) _ _ _
  unfold retStr
  have key : ∀ (x : Str), x = binText a.natAbs → x.length ≤ sizeLine ∧ Q (.str x (s.toks + 1)) { s with toks := s.toks + 1 + 1 } := fun x e => by
    subst e
    exact ⟨Nat.le_trans (by simpa [binText, Str.length] using hl) (by decide), h⟩
  refine wpAny_bind (wpAny_mkStr (wpAny_pure ?_) (key _ ?hs2).1)
  case hs2 =>
    conv => lhs; whnf
    have hneg : decide (a < 0) = false := by simpa using h0
    simp [hneg, binText]
  dsimp only
  refine wpAny_bind (wpAny_isInstance (typeIs_str _ _ _) isSubtype_str_str (wpAny_pure ?_))
  refine (key _ ?_).2
  conv => lhs; whnf
  have hneg : decide (a < 0) = false := by simpa using h0
  simp [hneg, binText]
end
section
variable {X : Cx}
/-- {n:b} -/
def tFmtB (te : TE) : TE := fun σ H Q => te σ H fun x H1 => ∃ i : Int, x = .int i ∧ 0 ≤ i ∧ (Nat.toDigits 2 i.natAbs).length ≤ 100000 ∧ Q (.str (binText i.natAbs)) H1
theorem pe_fmtB {e : Expr} {te : TE} {k : Nat} {p1 p2 pos : Pos} (he : PE X e te) : PE X (.FormattedValue e (-1) (some (.JoinedStr [.Constant (.str "b") k p1] p2)) pos) (tFmtB te) := by
  refine ⟨fun pins s σ H Q I h => ?_⟩
  refine wpAny_FormattedValue_spec (thn (he.run pins s σ H _ I h) fun v s1 hv => ?_)
  obtain ⟨x, H1, I1, r1, i, rfl, h0, hl, q⟩ := hv
  obtain ⟨t, rfl⟩ := r1
  have hp : PE X (.JoinedStr [.Constant (.str "b") k p1] p2) (tC (.str "b")) := pe_joined1 pe_str
  refine thn (hp.run pins s1 σ H1 (fun v H' => v = .str "b" ∧ H' = H1) I1 ⟨rfl, rfl⟩) fun r s2 hr => ?_
  obtain ⟨y, H2, I2, r2, rfl, rfl⟩ := hr
  obtain ⟨u, rfl⟩ := r2
  exact ⟨_, _, rfl, field_b h0 hl ⟨.str (binText i.natAbs), H2, I2.tok _, ⟨_, rfl⟩, q⟩⟩
end
end SecFmt
section SecBits
open PySem PySem.Spec PyProof.Rows L2
/-! ### binary digits -/
/-- the w lowest binary digits of n, the highest first -/
def fixL : Nat → Nat → List Int
  | 0, _ => []
  | w + 1, n => fixL w (n / 2) ++ [((n % 2 : Nat) : Int)]
theorem fixL_len : ∀ (w n : Nat), (fixL w n).length = w
  | 0, _ => rfl
  | w + 1, n => by rw [fixL, List.length_append, fixL_len w]; rfl
def isBit (b : Int) : Prop := b = 0 ∨ b = 1
theorem fixL_bit : ∀ (w n : Nat), ∀ b ∈ fixL w n, isBit b
  | 0, _, b, h => by simp [fixL] at h
  | w + 1, n, b, h => by
    rw [fixL, List.mem_append] at h
    rcases h with h | h
    · exact fixL_bit w _ b h
    · have : b = ((n % 2 : Nat) : Int) := by simpa using h
      have h2 : n % 2 < 2 := Nat.mod_lt _ (by decide)
      unfold isBit; omega
def code (b : Int) : Nat := (48 + b).toNat
def digs (n : Nat) : List Nat := (Nat.toDigits 2 n).map Char.toNat
theorem digs_small {n : Nat} (h : n < 2) : digs n = [48 + n] := by
  unfold digs; rw [Nat.toDigits_of_lt_base h]
  rcases (by omega : n = 0 ∨ n = 1) with rfl | rfl <;> rfl
theorem digs_step {n : Nat} (h : 2 ≤ n) : digs n = digs (n / 2) ++ [48 + n % 2] := by
  unfold digs; rw [Nat.toDigits_of_base_le (by decide) h, List.map_append]
  congr 1
  rcases (by omega : n % 2 = 0 ∨ n % 2 = 1) with e | e <;> rw [e] <;> rfl
theorem fixL_zero : ∀ w, (fixL w 0).map code = List.replicate w 48
  | 0 => rfl
  | w + 1 => by rw [fixL, List.map_append, fixL_zero w, List.replicate_succ']; rfl
theorem digs_fix : ∀ (w n : Nat), n < 2 ^ (w + 1) → (digs n).length ≤ w + 1 ∧ List.replicate (w + 1 - (digs n).length) 48 ++ digs n = (fixL (w + 1) n).map code
  | 0, n, h => by
    have h2 : n < 2 := by simpa using h
    rw [digs_small h2]
    rcases (by omega : n = 0 ∨ n = 1) with rfl | rfl <;> exact ⟨by decide, by decide⟩
  | w + 1, n, h => by
    by_cases h2 : n < 2
    · rw [digs_small h2]
      refine ⟨by simp, ?_⟩
      rw [fixL, List.map_append, show n / 2 = 0 by omega, fixL_zero]
      show List.replicate (w + 1) 48 ++ [48 + n] = _
      congr 1
      rcases (by omega : n = 0 ∨ n = 1) with rfl | rfl <;> rfl
    · have hp : n / 2 < 2 ^ (w + 1) := by rw [Nat.pow_succ] at h; omega
      obtain ⟨h3, h4⟩ := digs_fix w (n / 2) hp
      rw [digs_step (by omega), fixL, List.map_append, ← h4]
      refine ⟨by simp; omega, ?_⟩
      rw [List.length_append, List.length_singleton, show w + 1 + 1 - ((digs (n / 2)).length + 1) = w + 1 - (digs (n / 2)).length by omega, List.append_assoc]
      congr 2
theorem digs_head {n : Nat} : (digs n)[0]? = some 48 ∨ (digs n)[0]? = some 49 := by
  induction n using Nat.strongRecOn with
  | ind n ih =>
    by_cases h : n < 2
    · rw [digs_small h]; rcases (by omega : n = 0 ∨ n = 1) with rfl | rfl <;> simp
    · rw [digs_step (by omega)]
      have := ih (n / 2) (by omega)
      have hl : 0 < (digs (n / 2)).length := by
        cases e : digs (n / 2) with
        | nil => rw [e] at this; simp at this
        | cons => simp
      rw [List.getElem?_append_left hl]; exact this
theorem zfill_bin {w n : Nat} (h : n < 2 ^ (w + 1)) : (Txt.zfill (binText n) ((w + 1 : Nat) : Int)).cps.toList = (fixL (w + 1) n).map code := by
  obtain ⟨h1, h2⟩ := digs_fix w n h
  have hl : (binText n).length = (digs n).length := by simp [binText, Str.length, digs]
  have hc : (binText n).cps.toList = digs n := by simp [binText, digs]
  unfold Txt.zfill
  by_cases q : (((w + 1 : Nat) : Int) ≤ ((binText n).length : Int))
  · rw [if_pos q, hc, ← h2, show w + 1 - (digs n).length = 0 by omega]; rfl
  · rw [if_neg q]
    have e0 : ∀ x, (binText n).cps[0]? = some x → x ≠ 43 ∧ x ≠ 45 := fun x hx => by
      have : (digs n)[0]? = some x := by rw [← hc]; simpa using hx
      rcases digs_head (n := n) with z | z <;> rw [z] at this <;> cases this <;> decide
    unfold zfilled
    split
    · rename_i hx; exact absurd rfl (e0 _ hx).1
    · rename_i hx; exact absurd rfl (e0 _ hx).2
    · show (Array.replicate _ 48 ++ (binText n).cps ++ Array.replicate 0 48).toList = _
      rw [← h2]
      simp [hc, hl]
theorem bits_le {w n : Nat} (h : n < 2 ^ (w + 1)) : (Nat.toDigits 2 n).length ≤ w + 1 := by
  have := (digs_fix w n h).1
  simpa [digs] using this
theorem intBits_le {n : Int} {w : Nat} (h0 : 0 ≤ n) : (Builtin.Int.intBits n : Nat) ≤ w ↔ n.toNat < 2 ^ w := by
  unfold Builtin.Int.intBits
  by_cases h : n = 0
  · subst h; simp [Nat.two_pow_pos]
  · rw [if_neg (by simpa using h)]
    have e : n.natAbs = n.toNat := by omega
    rw [e, ← Nat.log2_lt (by omega : n.toNat ≠ 0)]
    omega
/-- the number of a list of digits, the highest first -/
def numL (bs : List Int) : Int := bs.foldl (fun a b => 2 * a + b) 0
theorem numL_snoc (bs : List Int) (b : Int) : numL (bs ++ [b]) = 2 * numL bs + b := by simp [numL, List.foldl_append]
theorem num_fixL : ∀ (w n : Nat), n < 2 ^ w → numL (fixL w n) = (n : Int)
  | 0, n, h => by
    have : n = 0 := by simpa using h
    subst this; rfl
  | w + 1, n, h => by
    rw [fixL, numL_snoc, num_fixL w (n / 2) (by rw [Nat.pow_succ] at h; omega)]
    omega
theorem code_bit {b : Int} (h : isBit b) : code b = 48 ∨ code b = 49 := by rcases h with rfl | rfl <;> decide
theorem text_bit {b : Int} (h : isBit b) : PySem.intText? ⟨#[code b]⟩ = some b := by rcases h with rfl | rfl <;> decide +kernel
/-- the digit at a place -/
theorem fixL_at : ∀ (w n i : Nat), i < w → (fixL w n)[i]? = some ((n / 2 ^ (w - 1 - i) % 2 : Nat) : Int)
  | 0, _, _, h => by omega
  | w + 1, n, i, h => by
    rw [fixL]
    by_cases hi : i < w
    · rw [List.getElem?_append_left (by rw [fixL_len]; exact hi), fixL_at w (n / 2) i hi]
      congr 3
      rw [Nat.div_div_eq_div_mul, show w + 1 - 1 - i = (w - 1 - i) + 1 by omega, Nat.pow_succ, Nat.mul_comm]
    · have : i = w := by omega
      subst this
      rw [List.getElem?_append_right (by rw [fixL_len]; exact Nat.le_refl _), fixL_len]
      simp
end SecBits
theorem s_fmtB {σ : L2.St} {H : Hp} {Q : VK} {te : TE} (h : te σ H fun x H1 => ∃ i : Int, x = .int i ∧ 0 ≤ i ∧ (Nat.toDigits 2 i.natAbs).length ≤ 100000 ∧ Q (.str (binText i.natAbs)) H1) : tFmtB te σ H Q := h
section ExcS
open PyProof.Rows
/-! ### own exception classes -/
def exA (mg : Str → Option Value) (x : Str) : Addr := match mg x with
  | some (.ref a) => a
  | _ => 0
theorem exA_of {mg : Str → Option Value} {x : Str} {a : Addr} (h : mg x = some (.ref a)) : exA mg x = a := by unfold exA; rw [h]
structure ExF (K : PySem.W.Frag) (mg : Str → Option Value) (nm : Str) : Prop where
  g : mg nm = some (.ref (exA mg nm))
  x : PySem.W.excIn K (exA mg nm) [.type "ValueError", .type "Exception", .type "BaseException", .type "object"] "ValueError.__new__" = true
  k : PySem.W.keepIn K (.ref (exA mg nm)) = true
  b : PySem.W.subIn K (.ref (exA mg nm)) (.type "BaseException") = some true
  t : PySem.W.typeIn K (.ref (exA mg nm)) = some (.type "type")
  c : ExcC K (exA mg nm)
theorem ExF.mk' {K : PySem.W.Frag} {mg : Str → Option Value} {nm : Str} {C : Addr} (g : mg nm = some (.ref C))
    (x : PySem.W.excIn K C [.type "ValueError", .type "Exception", .type "BaseException", .type "object"] "ValueError.__new__" = true) (k : PySem.W.keepIn K (.ref C) = true)
    (b : PySem.W.subIn K (.ref C) (.type "BaseException") = some true) (t : PySem.W.typeIn K (.ref C) = some (.type "type"))
    (hg : PySem.W.findIn K (.ref C) "__getattribute__" = some (some (.builtin "BaseException.__getattribute__")))
    (hk : PySem.W.findIn K (.ref C) "__getattr__" = some none)
    (hd : PySem.W.hasDictIn K C = true)
    (ha : PySem.W.findIn K (.ref C) "__class__" = some (some (.builtin "object.__class__")))
    (hn : PySem.W.specialIn K (.builtin "object.__class__") "__get__" = some (some (.builtin "getset_descriptor.__get__")))
    (ht : PySem.W.takesIn K (.builtin "object.__class__") = some true)
    (hm : PySem.W.mroIn K C (.type "object") = some true) : ExF K mg nm := by
  have e := exA_of g
  exact ⟨by rw [e]; exact g, by rw [e]; exact x, by rw [e]; exact k, by rw [e]; exact b, by rw [e]; exact t, by rw [e]; exact ⟨hg, hk, b, hd, ha, hn, ht, hm⟩⟩
theorem ExF.exm {K : PySem.W.Frag} {mg : Str → Option Value} {nm : Str} (h : ExF K mg nm) {cls : Value} {b : Bool} (s : PySem.W.subIn K cls (.ref (exA mg nm)) = some b) : PySem.W.exmOne K cls (.ref (exA mg nm)) = some b := PySem.W.exm_ref h.b h.c.hd h.t s
section
variable {X : Cx} {C : Addr} {bmB : List Value} {B newId initId : String}
open PySem.W in
/-- isinstance against an own class, by the order of the classes -/
theorem kit_own {K : Frag} {a C : Addr} {b : Bool} (hd : hasDictIn K C = true) (ht : typeIn K (.ref C) = some (.type "type")) (h : subIn K (.ref a) (.ref C) = some b) (s : subIn K (.ref a) (.ref a) = some true) : kitOne K (.ref a) (.ref C) = some b := by
  obtain ⟨cd, hc, _⟩ := any_some hd
  have e2 : ((clsIn K C).isSome && typeIn K (.ref C) == some (.type "type")) = true := by rw [hc, ht]; rfl
  unfold kitOne
  by_cases q : a = C
  · subst q
    rw [if_pos (by simp), ← h, s]
  · rw [if_neg (by simpa using q)]
    show (if ((clsIn K C).isSome && typeIn K (.ref C) == some (.type "type")) = true then subIn K (.ref a) (.ref C) else none) = some b
    rw [if_pos e2, h]
open PySem.W in
theorem kit_val {K : Frag} {a : Addr} (h : subIn K (.ref a) (.type "ValueError") = some true) : kitOne K (.ref a) (.type "ValueError") = some true := by
  unfold kitOne
  rw [if_neg (by simp)]
  show (if kitMeta "ValueError" = true then subIn K (.ref a) (.type "ValueError") else none) = some true
  rw [if_pos (by decide +kernel), h]
/-- X() -/
theorem pmk_own0 {x : Str} {p pos : Pos} (F : ExcBaseFacts B newId initId bmB) (q : PySem.W.excIn X.K C bmB newId = true) (gC : X.mg x = some (.ref C)) (kC : PySem.W.keepIn X.K (.ref C) = true) (r : Raises X (.ref C)) (hg : Gl X x)
    (hdb : (x == ("__debug__" : Str)) = false := by decide) : PMk X (.Call (.Name x p) [] [] pos) (fun _ H Q => Q (.ref C) none H) := by
  intro pins s σ H Q I h
  refine wpAny_Call_Name_kw (ld_glob I hg gC ?_ hdb)
  refine PySem.W.callWith_K0 I.kIn kC ?_
  obtain ⟨bm, N, nm, qn, bs, hdct, sn, sub, ab, col, dd, k0, k1, k2, k3, k5, mN, hC, hN, hni, T⟩ := exc_obj I.kIn q
  exact wpAny_call_exc_subT F T hC hN hni (fun h' e hm => mk_of I hm r h (I.hok.gone hm.new)) (Nat.zero_le _)
end
/-- isinstance(e, c) in an except suite: e's class is known in the reading -/
def rIsX (K : PySem.W.Frag) (a : Addr) (cls : Value) (d : Option Addr) : List V → Hp → VK → Prop := fun xs H Q => ∃ D, cls = .ref D ∧ d = none ∧ ExcC K D ∧ rIsE K D a xs H Q
theorem call_isX {X : Cx} (K : PySem.W.Frag) (eK : X.K = K) {a : Addr} {cls : Value} {d : Option Addr} {oe : Obj} {pn : List (Addr × Obj)} (hz : Zc cls d oe) (hf : ∃ vs, oe.data = .fields vs) : CallR (X.suite a ((a, oe) :: pn)) (.builtin "isinstance") (rIsX K a cls d) := by
  subst eK
  intro pins s σ H vs us Q I r h
  obtain ⟨D, rfl, rfl, C, q⟩ := h
  exact call_isE C hz hf pins s σ H vs us Q I r q
theorem s_isX {K : PySem.W.Frag} {a D C : Addr} {b : Bool} {H : Hp} {Q : VK} (c : ExcC K D) (k : PySem.W.kitOne K (.ref D) (.ref C) = some b) (q : Q (.bl b) H) : rIsX K a (.ref D) none [.ref a, .ref C] H Q :=
  ⟨D, rfl, rfl, c, .ref C, .ref C, b, rfl, fun _ r => r, k, q⟩
theorem s_isXt {K : PySem.W.Frag} {a D : Addr} {n : String} {b : Bool} {H : Hp} {Q : VK} (c : ExcC K D) (k : PySem.W.kitOne K (.ref D) (.type n) = some b) (q : Q (.bl b) H) : rIsX K a (.ref D) none [.ref a, .ty n] H Q :=
  ⟨D, rfl, rfl, c, .ty n, .type n, b, rfl, fun _ r => r, k, q⟩
theorem s_callS {sp : Sp} {E : L2.St → XK} {t : TA} {σ : L2.St} {H : Hp} {Q : VK} (h : t σ H fun vs H1 => sp vs H1 Q (E σ)) : tCallS sp E t σ H Q := h
theorem cx_none {P : Program} {w : World} {H : Hp} {s : Shared} {e : Value} {s' : Shared} (h : L2.CX P w [] H s (fun _ _ _ => False) e s') : False := by
  obtain ⟨_, _, _, _, _, _, _, _, _, _, _, _, z⟩ := h
  exact z
end ExcS
/-! ### several clauses behind a try, each with a name or without -/
section HandsS
open PySem.Spec PyProof.Rows
def goneD (i : Nat) (D : Ends) : Ends := ⟨fun σ H => D.nx (σ.set i none) H, D.rt, fun σ H => D.bk (σ.set i none) H, fun σ H => D.ct (σ.set i none) H⟩
/-- what the clauses want of an error: the first whose class fits takes it -/
def wH (K : PySem.W.Frag) (out : WX) (D : Ends) : List (Value × Option Nat × (Addr → Value → Option Addr → TS)) → WX
  | [] => out
  | (c, none, ts) :: r => fun cls d σ H => ∃ b, PySem.W.exmOne K cls c = some b ∧ (b = true → ∀ a, H a = none → ts a cls d D σ H) ∧ (b = false → wH K out D r cls d σ H)
  | (c, some i, ts) :: r => fun cls d σ H => ∃ b, PySem.W.exmOne K cls c = some b ∧ (b = true → ∀ a, H a = none → ts a cls d (goneD i D) (σ.set i (some (.ref a))) H) ∧ (b = false → wH K out D r cls d σ H)
inductive HOks (X : Cx) : List ExceptHandler → List (Value × Option Nat × (Addr → Value → Option Addr → TS)) → Prop
  | nil : HOks X [] []
  | anon {x : Str} {c : Value} {ts : Addr → Value → Option Addr → TS} {b₀ : Stmt} {suite : List Stmt} {np pos : Pos} {hds : List ExceptHandler} {l : List (Value × Option Nat × (Addr → Value → Option Addr → TS))} (hc : Names X x c)
      (hsu : ∀ (a : Addr) (oe : Obj) (cls : Value) (d : Option Addr) (pn : List (Addr × Obj)), Zc cls d oe → (∃ vs, oe.data = .fields vs) → PSs (X.suite a ((a, oe) :: pn)) (b₀ :: suite) (ts a cls d)) (r : HOks X hds l) :
      HOks X (.ExceptHandler (some (.Name x np)) none (b₀ :: suite) pos :: hds) ((c, none, ts) :: l)
  | named {x n : Str} {i : Nat} {c : Value} {ts : Addr → Value → Option Addr → TS} {b₀ : Stmt} {suite : List Stmt} {np pos : Pos} {hds : List ExceptHandler} {l : List (Value × Option Nat × (Addr → Value → Option Addr → TS))}
      (hi : X.N[i]? = some n) (hln : X.env.kindOf n = some .local) (hc : Names X x c)
      (hsu : ∀ (a : Addr) (oe : Obj) (cls : Value) (d : Option Addr) (pn : List (Addr × Obj)), Zc cls d oe → (∃ vs, oe.data = .fields vs) → PSs (X.suite a ((a, oe) :: pn)) (b₀ :: suite) (ts a cls d)) (r : HOks X hds l) :
      HOks X (.ExceptHandler (some (.Name x np)) (some n) (b₀ :: suite) pos :: hds) ((c, some i, ts) :: l)
/-- an error that has come down to the frame of a try -/
structure Down (X : Cx) (pins : List (Addr × Obj)) (σ : L2.St) (H : Hp) (cls : Value) (d : Option Addr) (a : Addr) (B : Heap) (sI s : Shared) : Prop where
  at0 : L2.Inv X pins σ H sI
  nb : ∀ (b : Addr) (o : Obj), sI.heap.get? b = some o → ¬ b ∈ frs X.stack → B.get? b = some o
  up : sI.heap.UpToSlots s.heap
  os : s.os = sI.os
  ag : AllBare s.gens
  na : H a = none
  fl : HandSPX.FlyingZ B (X.env :: X.outer) a (Zc cls d) s.heap
variable {X : Cx} {pins : List (Addr × Obj)} {σ : L2.St} {H : Hp} {cls : Value} {d : Option Addr} {a : Addr} {B : Heap} {sI s : Shared}
theorem Down.inv (D : Down X pins σ H cls d a B sI s) : L2.Inv X pins σ H s := D.at0.landed D.nb D.fl.1 D.up D.os D.ag
theorem Down.obj (D : Down X pins σ H cls d a B sI s) (hf : X.env.frame = some X.env.locals) :
    ∃ oe vs, s.heap.get? a = some oe ∧ Zc cls d oe ∧ oe.data = Data.fields vs ∧ L2.Inv (X.suite a ((a, oe) :: (X.pn ++ pins))) [] σ H s := by
  obtain ⟨oe, vs, e, z, dd⟩ := D.fl.there
  have off : a ∉ frs (X.env :: X.outer) := fun hm => by
    obtain ⟨_, o, e', no⟩ := D.fl.2.2.1.mem hm
    rw [e] at e'
    exact no vs ((Option.some.inj e') ▸ dd)
  have n1 : a ≠ X.env.locals := fun z => off (List.mem_filterMap.mpr ⟨X.env, by simp, by rw [hf, z]⟩)
  have n2 : a ∉ X.fs := fun hm => off (by
    obtain ⟨v, hv, q⟩ := List.mem_filterMap.mp hm
    exact List.mem_filterMap.mpr ⟨v, by simp [hv], q⟩)
  exact ⟨oe, vs, e, z, dd, D.inv.suite e dd D.na n1 n2⟩
theorem Down.next (D : Down X pins σ H cls d a B sI s) {h' : Heap} (f : HandSPX.FlyingZ B (X.env :: X.outer) a (Zc cls d) h') (u : s.heap.UpToSlots h') : Down X pins σ H cls d a B sI { s with heap := h' } :=
  ⟨D.at0, D.nb, D.up.trans u, D.os, D.ag, D.na, f⟩
theorem Down.hands (D : Down X pins σ H cls d a B sI s) {W : WX} {E : Ends} (hs : X.stack = X.env :: X.outer) (hf : X.env.frame = some X.env.locals) (hN : X.N.Nodup) (tk : Takes X W) (ok : X.Ok) {hds : List ExceptHandler} {l : List (Value × Option Nat × (Addr → Value → Option Addr → TS))}
    (hh : HOks X hds l) (w : wH X.K W E l cls d σ H) : wpAny (model X.prog X.w) X.A (handleBy (.ref a) X.env hds) (SP X pins E) X.xe s := by
  induction hh with
  | nil =>
    refine wpAny_handleBy_nil ?_
    obtain ⟨_, _, _, oe, vs, T, oT, ts, he, _, hd, h1, _⟩ := id D.fl
    unfold PySem.passOn
    refine wpAny_bind (wpAny_field he hd h1 ?_)
    rw [if_neg (show ¬ ((Value.ref T == Value.none) = true) from by simp)]
    have out : wpAny (model X.prog X.w) X.A (setFlight (.ref a) X.env.frame) (fun _ s4 => wpAny (model X.prog X.w) X.A (throw (.ref a) : Sem Flow) (SP X pins E) X.xe s4) X.xe s := by
      rw [hf]
      exact HandSPX.setFlight_upZ D.fl fun h4 hh4 u4 => wpAny_throw (tk _ _ ⟨a, B, sI, pins, σ, H, cls, d, rfl, D.at0, D.nb, D.up.trans u4, .inr (.inr (by rw [hs]; exact hh4)), D.na, D.os, D.ag, w⟩)
    first
      | exact wpAny_bind (wpAny_pure (wpAny_bind out))
      | exact wpAny_bind out
  | @anon x c ts b₀ suite np pos hds l hc hsu r ih =>
    obtain ⟨b, e1, yes, no⟩ := w
    obtain ⟨oe, vs, he, hz, _, S⟩ := D.obj hf
    refine wpAny_handleBy_cons (codeAny_handlers_test ?_) (by intro q; cases q)
    have ty : PySem.W.Looks (model X.prog X.w) s.heap (typeOf (.ref a)) cls := fun _ _ _ _ k q => wpAny_typeOf_ref (k _ _ he) (by rw [hz.1]; exact q)
    have fits := PySem.W.exm_one (M := model X.prog X.w) D.inv.kIn ty e1
    have name : ∀ {Q E : Value → Shared → Prop}, Q c s → wpAny (model X.prog X.w) (X.A.mark (some (.ref a))) (eval (.Name x np) X.env) Q E s := fun {Q E} q => by
      obtain ⟨g1, g2, g3 | ⟨g3, g4, g5⟩⟩ := hc
      · exact ld_glob (X := X.suite a ((a, oe) :: (X.pn ++ pins))) S g1 g3 q g2
      · exact ld_blt (X := X.suite a ((a, oe) :: (X.pn ++ pins))) S g1 g3 g4 q g5 g2
    refine name (fits.here ?_)
    cases b with
    | false => exact ih (no rfl)
    | true =>
      refine codeAny_handlers_suite (HandSPX.lands_againZ D.fl fun h4 f4 u4 => ?_)
      obtain ⟨oe4, vs4, _, z4, d4, S4⟩ := (D.next f4 u4).obj hf
      refine wpAny_mono ((hsu a oe4 cls d (X.pn ++ pins) z4 ⟨_, d4⟩).run [] _ σ H E S4 (yes rfl a D.na)) (fun f s6 q => ?_) fun _ _ z => z.elim
      cases f with
      | ret u =>
        obtain ⟨v6, σ6, H6, S6, r6, q6⟩ := q
        exact ⟨v6, σ6, H6, S6.unsuite ok, r6, q6⟩
      | _ =>
        obtain ⟨σ6, H6, S6, q6⟩ := q
        exact ⟨σ6, H6, S6.unsuite ok, q6⟩
  | @named x n i c ts b₀ suite np pos hds l hi hln hc hsu r ih =>
    obtain ⟨b, e1, yes, no⟩ := w
    obtain ⟨oe, vs, he, hz, _, S⟩ := D.obj hf
    refine wpAny_handleBy_cons (codeAny_handlers_test ?_) (by intro q; cases q)
    have ty : PySem.W.Looks (model X.prog X.w) s.heap (typeOf (.ref a)) cls := fun _ _ _ _ k q => wpAny_typeOf_ref (k _ _ he) (by rw [hz.1]; exact q)
    have fits := PySem.W.exm_one (M := model X.prog X.w) D.inv.kIn ty e1
    have name : ∀ {Q E : Value → Shared → Prop}, Q c s → wpAny (model X.prog X.w) (X.A.mark (some (.ref a))) (eval (.Name x np) X.env) Q E s := fun {Q E} q => by
      obtain ⟨g1, g2, g3 | ⟨g3, g4, g5⟩⟩ := hc
      · exact ld_glob (X := X.suite a ((a, oe) :: (X.pn ++ pins))) S g1 g3 q g2
      · exact ld_blt (X := X.suite a ((a, oe) :: (X.pn ++ pins))) S g1 g3 g4 q g5 g2
    refine name (fits.here ?_)
    cases b with
    | false => exact ih (no rfl)
    | true =>
      refine codeAny_handlers_suite_as (HandSPX.lands_againZ D.fl fun h4 f4 u4 => ?_)
      obtain ⟨oe4, vs4, _, z4, d4, S4⟩ := (D.next f4 u4).obj hf
      refine store_ok (X := X.suite a ((a, oe4) :: (X.pn ++ pins))) (v := .ref a) S4 hN hi (.inl hln) rfl (fun s5 S5 => ?_) (.inr hln)
      refine wpAny_mono ((hsu a oe4 cls d (X.pn ++ pins) z4 ⟨_, d4⟩).run [] s5 _ H (goneD i E) S5 (yes rfl a D.na)) (fun f s6 q => ?_) fun _ _ z => z.elim
      cases f with
      | ret u =>
        obtain ⟨v6, σ6, H6, S6, r6, q6⟩ := q
        exact gone_ok (S6.unsuite ok) hN hi hln fun s7 J7 => ⟨_, _, _, J7, r6, q6⟩
      | _ =>
        obtain ⟨σ6, H6, S6, q6⟩ := q
        exact gone_ok (S6.unsuite ok) hN hi hln fun s7 J7 => ⟨_, _, J7, q6⟩
/-- try: body, then clauses with names or without -/
theorem ps_tryH {body : List Stmt} {h₀ : ExceptHandler} {hds : List ExceptHandler} {l : List (Value × Option Nat × (Addr → Value → Option Addr → TS))} {W : WX} {tb : WX → TS} {pos : Pos} (hs : X.stack = X.env :: X.outer) (hf : X.env.frame = some X.env.locals) (hN : X.N.Nodup) (tk : Takes X W)
    (hb : ∀ (V : WX) (pn : List (Addr × Obj)) (xe : Value → Shared → Prop), Takes (X.tr pn xe) V → PassesOwn (model X.prog X.w) X.A X.env xe → PSs (X.tr pn xe) body (tb V))
    (hh : HOks X (h₀ :: hds) l) : PS X (.Try body (h₀ :: hds) [] [] pos) (fun D σ H => tb (wH X.K W D l) D σ H) := by
  refine ⟨fun pins s σ H D I h => ?_⟩
  have ok := I.ok
  refine wpAny_Try_except (wpAny_mono ((hb (wH X.K W D l) (X.pn ++ pins) _ (fun u s' xx => ?_) PassesOwn.looking).run [] s σ H D (I.toTry _) h) (fun f s1 q => ?_) fun e s1 he => he)
  · obtain ⟨a, B, sI, pins', σ', H', cls, d, rfl, J', nb, up, sky, na, os, ag, w⟩ := xx
    have sky' : Sky B (X.env :: X.outer) a (Zc cls d) X.env.locals s'.heap := by rw [← hs]; exact sky
    exact Sky.land Zc.steady (by rw [ok.frames, hs]) hf sky' fun h3 f3 u3 => Down.hands (s := { s' with heap := h3 }) ⟨J'.ofTry ok, nb, up.trans u3, os, ag, na, f3⟩ hs hf hN tk ok hh w
  · cases f with
    | next =>
      obtain ⟨σ', H', J', q⟩ := q
      exact wpAny_execs_nil ⟨σ', H', J'.ofTry ok, q⟩
    | ret u =>
      obtain ⟨v, σ', H', J', r, q⟩ := q
      exact ⟨v, σ', H', J'.ofTry ok, r, q⟩
    | _ =>
      obtain ⟨σ', H', J', q⟩ := q
      exact ⟨σ', H', J'.ofTry ok, q⟩
end HandsS
section SecCrc
open PySem PySem.Spec PyProof.Rows L2
/-! ### the check: linear -/
def stp (h b : Nat) : Nat := (2 * h % 256) ^^^ (if (h / 128) ^^^ b = 1 then 7 else 0)
theorem stp_lt (h b : Nat) : stp h b < 256 := by
  unfold stp
  refine Nat.xor_lt_two_pow (n := 8) (Nat.mod_lt _ (by decide)) ?_
  split <;> decide
theorem xor_div_128 (a b : Nat) : (a ^^^ b) / 128 = a / 128 ^^^ b / 128 := by
  have := Nat.shiftRight_xor_distrib (a := a) (b := b) (i := 7)
  rw [Nat.shiftRight_eq_div_pow, Nat.shiftRight_eq_div_pow, Nat.shiftRight_eq_div_pow] at this
  exact this
theorem xor_two (a b : Nat) : 2 * (a ^^^ b) = 2 * a ^^^ 2 * b := by
  have := Nat.shiftLeft_xor_distrib (a := a) (b := b) (i := 1)
  rw [Nat.shiftLeft_eq, Nat.shiftLeft_eq, Nat.shiftLeft_eq] at this
  rw [Nat.mul_comm 2, Nat.mul_comm 2, Nat.mul_comm 2]
  exact this
theorem xor4 (a b c d : Nat) : (a ^^^ b) ^^^ (c ^^^ d) = (a ^^^ c) ^^^ (b ^^^ d) := by
  rw [Nat.xor_assoc, Nat.xor_assoc, ← Nat.xor_assoc b c d, Nat.xor_comm b c, Nat.xor_assoc c b d]
theorem stp_lin {h k b c : Nat} (hh : h < 256) (hk : k < 256) (hb : b < 2) (hc : c < 2) : stp (h ^^^ k) (b ^^^ c) = stp h b ^^^ stp k c := by
  unfold stp
  have h1 : h / 128 < 2 := by omega
  have k1 : k / 128 < 2 := by omega
  have key : ∀ x y : Nat, x < 2 → y < 2 → (if (x ^^^ y) ^^^ (b ^^^ c) = 1 then 7 else 0) = (if x ^^^ b = 1 then 7 else 0) ^^^ (if y ^^^ c = 1 then 7 else 0) := ?_
  · rw [xor_two, xor_div_128, show (256 : Nat) = 2 ^ 8 from rfl, Nat.xor_mod_two_pow, key _ _ h1 k1, xor4]
  intro x y hx hy
  rcases (by omega : x = 0 ∨ x = 1) with rfl | rfl <;> rcases (by omega : y = 0 ∨ y = 1) with rfl | rfl <;> rcases (by omega : b = 0 ∨ b = 1) with rfl | rfl <;> rcases (by omega : c = 0 ∨ c = 1) with rfl | rfl <;> rfl
def cf (h : Nat) (bs : List Int) : Nat := bs.foldl (fun h b => stp h b.toNat) h
def chk (bs : List Int) : Nat := cf 0 bs
theorem cf_lt : ∀ (bs : List Int) (h : Nat), h < 256 → cf h bs < 256
  | [], _, hh => hh
  | b :: bs, h, _ => cf_lt bs _ (stp_lt _ _)
theorem chk_lt (bs : List Int) : chk bs < 256 := cf_lt bs 0 (by decide)
theorem cf_snoc (bs : List Int) (h : Nat) (b : Int) : cf h (bs ++ [b]) = stp (cf h bs) b.toNat := by simp [cf, List.foldl_append]
/-- some bits turned: those at the places E, counted from i -/
def flipL (E : Nat → Bool) : Nat → List Int → List Int
  | _, [] => []
  | i, x :: xs => (if E i then 1 - x else x) :: flipL E (i + 1) xs
theorem flipL_len (E : Nat → Bool) : ∀ (xs : List Int) (i : Nat), (flipL E i xs).length = xs.length
  | [], _ => rfl
  | x :: xs, i => by simp [flipL, flipL_len E xs]
theorem flipL_append (E : Nat → Bool) : ∀ (xs ys : List Int) (i : Nat), flipL E i (xs ++ ys) = flipL E i xs ++ flipL E (i + xs.length) ys
  | [], ys, i => by simp [flipL]
  | x :: xs, ys, i => by simp [flipL, flipL_append E xs ys (i + 1), Nat.add_comm, Nat.add_left_comm]
theorem flipL_at (E : Nat → Bool) : ∀ (xs : List Int) (i j : Nat), (flipL E i xs)[j]? = (xs[j]?).map fun x => if E (i + j) then 1 - x else x
  | [], _, _ => by simp [flipL]
  | x :: xs, i, 0 => by simp [flipL]
  | x :: xs, i, j + 1 => by simp [flipL, flipL_at E xs (i + 1) j, Nat.add_comm, Nat.add_left_comm]
def cfE (E : Nat → Bool) : Nat → Nat → Nat → Nat
  | d, _, 0 => d
  | d, i, n + 1 => cfE E (stp d (E i).toNat) (i + 1) n
theorem toNat_lt (b : Bool) : b.toNat < 2 := by cases b <;> decide
theorem bit_lt {x : Int} (h : isBit x) : x.toNat < 2 := by rcases h with rfl | rfl <;> decide
theorem flip_bit {x : Int} (h : isBit x) (e : Bool) : (if e then 1 - x else x).toNat = x.toNat ^^^ e.toNat := by rcases h with rfl | rfl <;> cases e <;> rfl
theorem cf_flip (E : Nat → Bool) : ∀ (xs : List Int) (h d i : Nat), h < 256 → d < 256 → (∀ x ∈ xs, isBit x) → cf (h ^^^ d) (flipL E i xs) = cf h xs ^^^ cfE E d i xs.length
  | [], _, _, _, _, _, _ => rfl
  | x :: xs, h, d, i, hh, hd, hx => by
    have e : cf (h ^^^ d) (flipL E i (x :: xs)) = cf (stp (h ^^^ d) (if E i then 1 - x else x).toNat) (flipL E (i + 1) xs) := rfl
    rw [e, flip_bit (hx x (by simp)), stp_lin hh hd (bit_lt (hx x (by simp))) (toNat_lt _), cf_flip E xs _ _ _ (stp_lt _ _) (stp_lt _ _) fun y hy => hx y (by simp [hy])]
    rfl
def maskN (E : Nat → Bool) (i : Nat) : Nat → Nat
  | 0 => 0
  | w + 1 => 2 * maskN E i w + (E (i + w)).toNat
theorem xor_half (c m e : Nat) (he : e < 2) : (c ^^^ (2 * m + e)) / 2 = c / 2 ^^^ m ∧ (c ^^^ (2 * m + e)) % 2 = c % 2 ^^^ e := by
  have h1 := Nat.shiftRight_xor_distrib (a := c) (b := 2 * m + e) (i := 1)
  rw [Nat.shiftRight_eq_div_pow, Nat.shiftRight_eq_div_pow, Nat.shiftRight_eq_div_pow] at h1
  have h2 := Nat.xor_mod_two_pow (a := c) (b := 2 * m + e) (n := 1)
  refine ⟨by rw [show (2 : Nat) = 2 ^ 1 from rfl, h1]; congr 1; omega, by rw [show (2 : Nat) = 2 ^ 1 from rfl, h2]; congr 1; omega⟩
theorem fixL_len' : ∀ (w n : Nat), (fixL w n).length = w
  | 0, _ => rfl
  | w + 1, n => by rw [fixL, List.length_append, fixL_len' w]; rfl
theorem flip_fix (E : Nat → Bool) (i : Nat) : ∀ (w c : Nat), flipL E i (fixL w c) = fixL w (c ^^^ maskN E i w)
  | 0, _ => rfl
  | w + 1, c => by
    obtain ⟨h1, h2⟩ := xor_half c (maskN E i w) (E (i + w)).toNat (toNat_lt _)
    rw [fixL, flipL_append, flip_fix E i w, fixL, maskN, h1, h2, fixL_len']
    congr 1
    have : c % 2 < 2 := Nat.mod_lt _ (by decide)
    show [if E (i + w) then 1 - ((c % 2 : Nat) : Int) else ((c % 2 : Nat) : Int)] = _
    rcases (by omega : c % 2 = 0 ∨ c % 2 = 1) with e | e <;> rw [e] <;> cases E (i + w) <;> rfl
/-- what turned bits leave -/
def synd (E : Nat → Bool) : Nat := cfE E 0 0 48 ^^^ maskN E 48 8
abbrev xorE (E G : Nat → Bool) : Nat → Bool := fun i => E i ^^ G i
theorem toNat_xor (a b : Bool) : (a ^^ b).toNat = a.toNat ^^^ b.toNat := by cases a <;> cases b <;> rfl
theorem cfE_lin (E G : Nat → Bool) : ∀ (n d e i : Nat), d < 256 → e < 256 → cfE (xorE E G) (d ^^^ e) i n = cfE E d i n ^^^ cfE G e i n
  | 0, _, _, _, _, _ => rfl
  | n + 1, d, e, i, hd, he => by
    show cfE (xorE E G) (stp (d ^^^ e) (E i ^^ G i).toNat) (i + 1) n = _
    rw [toNat_xor, stp_lin hd he (toNat_lt _) (toNat_lt _), cfE_lin E G n _ _ _ (stp_lt _ _) (stp_lt _ _)]
    rfl
theorem maskN_lin (E G : Nat → Bool) (i : Nat) : ∀ w, maskN (xorE E G) i w = maskN E i w ^^^ maskN G i w
  | 0 => by simp [maskN]
  | w + 1 => by
    show 2 * maskN (xorE E G) i w + (E (i + w) ^^ G (i + w)).toNat = _
    rw [maskN_lin E G i w, toNat_xor]
    obtain ⟨h1, h2⟩ := xor_half (2 * maskN E i w + (E (i + w)).toNat) (maskN G i w) (G (i + w)).toNat (toNat_lt _)
    have t1 := toNat_lt (E (i + w)); have t2 := toNat_lt (G (i + w))
    rw [show (2 * maskN E i w + (E (i + w)).toNat) / 2 = maskN E i w by omega] at h1
    rw [show (2 * maskN E i w + (E (i + w)).toNat) % 2 = (E (i + w)).toNat by omega] at h2
    have l : maskN E i (w + 1) = 2 * maskN E i w + (E (i + w)).toNat := rfl
    have l' : maskN G i (w + 1) = 2 * maskN G i w + (G (i + w)).toNat := rfl
    rw [l, l']
    omega
theorem synd_lin (E G : Nat → Bool) : synd (xorE E G) = synd E ^^^ synd G := by
  unfold synd
  rw [← xor4, ← maskN_lin, ← cfE_lin E G 48 0 0 0 (by decide) (by decide)]
  rfl
theorem cfE_congr {E G : Nat → Bool} : ∀ (n d i : Nat), (∀ j, j < i + n → E j = G j) → cfE E d i n = cfE G d i n
  | 0, _, _, _ => rfl
  | n + 1, d, i, h => by
    show cfE E (stp d (E i).toNat) (i + 1) n = cfE G (stp d (G i).toNat) (i + 1) n
    rw [h i (by omega), cfE_congr n _ _ fun j hj => h j (by omega)]
theorem maskN_congr {E G : Nat → Bool} (i : Nat) : ∀ w, (∀ j, j < i + w → E j = G j) → maskN E i w = maskN G i w
  | 0, _ => rfl
  | w + 1, h => by
    show 2 * maskN E i w + (E (i + w)).toNat = 2 * maskN G i w + (G (i + w)).toNat
    rw [maskN_congr i w fun j hj => h j (by omega), h (i + w) (by omega)]
theorem synd_congr {E G : Nat → Bool} (h : ∀ j, j < 56 → E j = G j) : synd E = synd G := by
  unfold synd
  rw [cfE_congr 48 0 0 fun j hj => h j (by omega), maskN_congr 48 8 fun j hj => h j (by omega)]
def one (x : Nat) : Nat → Bool := fun i => decide (i = x)
theorem xor_zero' {a b : Nat} (e : a ^^^ b = 0) : a = b := by
  have := congrArg (fun z => z ^^^ b) e
  simpa [Nat.xor_assoc] using this
def tb : List Nat := [236, 118, 59, 158, 79, 164, 82, 41, 151, 200, 100, 50, 25, 143, 196, 98, 49, 155, 206, 103, 176, 88, 44, 22, 11, 134, 67, 162, 81, 171, 214, 107, 182, 91, 174, 87, 168, 84, 42, 21, 137, 199, 224, 112, 56, 28, 14, 7, 128, 64, 32, 16, 8, 4, 2, 1]
def T (x : Nat) : Nat := synd (one x)
theorem T_eq : ∀ x < 56, T x = tb.getD x 0 := by decide +kernel
theorem synd_zero : synd (fun _ => false) = 0 := by decide +kernel
theorem tb_ne0 : ∀ x < 56, tb.getD x 0 ≠ 0 := by decide +kernel
theorem tb_ne2 : ∀ x < 56, ∀ y < x, tb.getD x 0 ≠ tb.getD y 0 := by decide +kernel
theorem tb_ne3 : ∀ x < 56, ∀ y < x, (tb.getD x 0 ^^^ tb.getD y 0) ∉ tb := by decide +kernel
def Y (b m : Nat) : Nat := (List.range 8).foldl (fun s j => s ^^^ (if m / 2 ^ j % 2 = 1 then tb.getD (b + j) 0 else 0)) 0
theorem Y_ne0 : ∀ b < 49, ∀ m < 256, m ≠ 0 → Y b m ≠ 0 := by decide +kernel
theorem T_ne0 {x : Nat} (h : x < 56) : T x ≠ 0 := by rw [T_eq x h]; exact tb_ne0 x h
theorem T_ne2 {x y : Nat} (hx : x < 56) (hy : y < 56) (h : x ≠ y) : T x ^^^ T y ≠ 0 := by
  rw [T_eq x hx, T_eq y hy]
  intro e
  have e := xor_zero' e
  rcases Nat.lt_or_gt_of_ne h with z | z
  · exact tb_ne2 y hy x z e.symm
  · exact tb_ne2 x hx y z e
theorem T_ne3 {x y z : Nat} (hx : x < 56) (hy : y < 56) (hz : z < 56) (h : x ≠ y) : T x ^^^ T y ^^^ T z ≠ 0 := by
  rw [T_eq x hx, T_eq y hy, T_eq z hz]
  intro e
  have e := xor_zero' e
  have m : tb.getD z 0 ∈ tb := by
    have hl : z < tb.length := hz
    rw [List.getD_eq_getElem?_getD, List.getElem?_eq_getElem hl]; exact List.getElem_mem hl
  rcases Nat.lt_or_gt_of_ne h with w | w
  · rw [Nat.xor_comm] at e; exact tb_ne3 y hy x w (e ▸ m)
  · exact tb_ne3 x hx y w (e ▸ m)
def ind (L : List Nat) : Nat → Bool := fun i => decide (i ∈ L)
theorem ind1 (x : Nat) : synd (ind [x]) = T x := synd_congr fun j _ => by simp [ind, one]
theorem ind2 {x y : Nat} (h : x ≠ y) : synd (ind [x, y]) = T x ^^^ T y := by
  rw [show T x ^^^ T y = synd (xorE (one x) (one y)) from (synd_lin _ _).symm]
  refine synd_congr fun j _ => ?_
  by_cases a : j = x
  · subst a; simp [ind, one, h]
  · by_cases b : j = y
    · subst b; simp [ind, one, h.symm]
    · simp [ind, one, a, b]
theorem ind3 {x y z : Nat} (h : x ≠ y) (h1 : z ≠ x) (h2 : z ≠ y) : synd (ind [x, y, z]) = T x ^^^ T y ^^^ T z := by
  rw [show T x ^^^ T y ^^^ T z = synd (xorE (xorE (one x) (one y)) (one z)) by rw [synd_lin, synd_lin]; rfl]
  refine synd_congr fun j _ => ?_
  by_cases a : j = x
  · subst a; simp [ind, one, h, h1.symm]
  · by_cases b : j = y
    · subst b; simp [ind, one, h.symm, h2.symm]
    · by_cases c : j = z
      · subst c; simp [ind, one, h1, h2]
      · simp [ind, one, a, b, c]
theorem ind_congr {L M : List Nat} (h : ∀ i, i ∈ L ↔ i ∈ M) : synd (ind L) = synd (ind M) := synd_congr fun j _ => by simp [ind, h j]
theorem synd_small {L : List Nat} (h0 : L ≠ []) (h3 : L.length ≤ 3) (hL : ∀ x ∈ L, x < 56) : synd (ind L) ≠ 0 := by
  match L, h0, h3, hL with
  | [x], _, _, hL => rw [ind1]; exact T_ne0 (hL x (by simp))
  | [x, y], _, _, hL =>
    by_cases h : x = y
    · subst h; rw [ind_congr (M := [x]) (by simp), ind1]; exact T_ne0 (hL x (by simp))
    · rw [ind2 h]; exact T_ne2 (hL x (by simp)) (hL y (by simp)) h
  | [x, y, z], _, _, hL =>
    have hx := hL x (by simp); have hy := hL y (by simp); have hz := hL z (by simp)
    by_cases h : x = y
    · subst h
      by_cases h1 : x = z
      · subst h1; rw [ind_congr (M := [x]) (by simp), ind1]; exact T_ne0 hx
      · rw [ind_congr (M := [x, z]) (by simp), ind2 h1]; exact T_ne2 hx hz h1
    · by_cases h1 : z = x
      · subst h1; rw [ind_congr (M := [z, y]) (by intro i; simp; omega), ind2 h]; exact T_ne2 hx hy h
      · by_cases h2 : z = y
        · subst h2; rw [ind_congr (M := [x, z]) (by intro i; simp), ind2 h]; exact T_ne2 hx hy h
        · rw [ind3 h h1 h2]; exact T_ne3 hx hy hz h
  | _ :: _ :: _ :: _ :: _, _, h, _ => simp at h
def part (E : Nat → Bool) (b n : Nat) : Nat → Bool := fun i => E i && decide (b ≤ i ∧ i < b + n)
def XE (E : Nat → Bool) (b : Nat) : Nat → Nat
  | 0 => 0
  | n + 1 => XE E b n ^^^ (if E (b + n) then T (b + n) else 0)
theorem synd_part (E : Nat → Bool) (b : Nat) : ∀ n, synd (part E b n) = XE E b n
  | 0 => by
    rw [show synd (part E b 0) = synd (fun _ => false) from synd_congr fun j _ => by simp [part]]
    exact synd_zero
  | n + 1 => by
    rw [XE, ← synd_part E b n]
    by_cases e : E (b + n) = true
    · rw [if_pos e, show synd (part E b n) ^^^ T (b + n) = synd (xorE (part E b n) (one (b + n))) from (synd_lin _ _).symm]
      refine synd_congr fun j _ => ?_
      by_cases h : j = b + n
      · subst h; simp [part, one, e]
      · have e1 : one (b + n) j = false := by simp [one, h]
        show part E b (n + 1) j = (part E b n j ^^ one (b + n) j)
        rw [e1, Bool.xor_false]
        unfold part
        congr 1
        simp only [decide_eq_decide]
        omega
    · have e : E (b + n) = false := by simpa using e
      rw [if_neg (by simp [e]), Nat.xor_zero]
      refine synd_congr fun j _ => ?_
      by_cases h : j = b + n
      · subst h; simp [part, e]
      · unfold part
        congr 1
        simp only [decide_eq_decide]
        omega
def mOf (E : Nat → Bool) (b : Nat) : Nat := (E b).toNat + 2 * (E (b + 1)).toNat + 4 * (E (b + 2)).toNat + 8 * (E (b + 3)).toNat + 16 * (E (b + 4)).toNat + 32 * (E (b + 5)).toNat + 64 * (E (b + 6)).toNat + 128 * (E (b + 7)).toNat
theorem tn (b : Bool) : (b.toNat = 1 ∧ b = true) ∨ (b.toNat = 0 ∧ b = false) := by cases b <;> simp
theorem mOf_bit (E : Nat → Bool) (b : Nat) : ∀ j < 8, (mOf E b / 2 ^ j % 2 = 1) ↔ E (b + j) = true := by
  have h0 := tn (E b); have h1 := tn (E (b + 1)); have h2 := tn (E (b + 2)); have h3 := tn (E (b + 3)); have h4 := tn (E (b + 4)); have h5 := tn (E (b + 5)); have h6 := tn (E (b + 6)); have h7 := tn (E (b + 7))
  intro j hj
  unfold mOf
  rcases (by omega : j = 0 ∨ j = 1 ∨ j = 2 ∨ j = 3 ∨ j = 4 ∨ j = 5 ∨ j = 6 ∨ j = 7) with rfl | rfl | rfl | rfl | rfl | rfl | rfl | rfl
  · rcases h0 with ⟨a, c⟩ | ⟨a, c⟩ <;> simp only [Nat.add_zero, a, c] <;> simp <;> omega
  · rcases h1 with ⟨a, c⟩ | ⟨a, c⟩ <;> simp only [a, c] <;> simp <;> omega
  · rcases h2 with ⟨a, c⟩ | ⟨a, c⟩ <;> simp only [a, c] <;> simp <;> omega
  · rcases h3 with ⟨a, c⟩ | ⟨a, c⟩ <;> simp only [a, c] <;> simp <;> omega
  · rcases h4 with ⟨a, c⟩ | ⟨a, c⟩ <;> simp only [a, c] <;> simp <;> omega
  · rcases h5 with ⟨a, c⟩ | ⟨a, c⟩ <;> simp only [a, c] <;> simp <;> omega
  · rcases h6 with ⟨a, c⟩ | ⟨a, c⟩ <;> simp only [a, c] <;> simp <;> omega
  · rcases h7 with ⟨a, c⟩ | ⟨a, c⟩ <;> simp only [a, c] <;> simp <;> omega
theorem XE_Y (E : Nat → Bool) {b : Nat} (hb : b < 49) : XE E b 8 = Y b (mOf E b) := by
  have h := mOf_bit E b
  have t : ∀ j < 8, (if E (b + j) = true then T (b + j) else 0) = (if mOf E b / 2 ^ j % 2 = 1 then tb.getD (b + j) 0 else 0) := fun j hj => by
    by_cases e : E (b + j) = true
    · rw [if_pos e, if_pos ((h j hj).mpr e), T_eq _ (by omega)]
    · rw [if_neg e, if_neg fun z => e ((h j hj).mp z)]
  have y : Y b (mOf E b) = (((((((0 ^^^ (if mOf E b / 2 ^ 0 % 2 = 1 then tb.getD (b + 0) 0 else 0)) ^^^ (if mOf E b / 2 ^ 1 % 2 = 1 then tb.getD (b + 1) 0 else 0)) ^^^ (if mOf E b / 2 ^ 2 % 2 = 1 then tb.getD (b + 2) 0 else 0)) ^^^ (if mOf E b / 2 ^ 3 % 2 = 1 then tb.getD (b + 3) 0 else 0)) ^^^ (if mOf E b / 2 ^ 4 % 2 = 1 then tb.getD (b + 4) 0 else 0)) ^^^ (if mOf E b / 2 ^ 5 % 2 = 1 then tb.getD (b + 5) 0 else 0)) ^^^ (if mOf E b / 2 ^ 6 % 2 = 1 then tb.getD (b + 6) 0 else 0)) ^^^ (if mOf E b / 2 ^ 7 % 2 = 1 then tb.getD (b + 7) 0 else 0) := rfl
  rw [y, ← t 0 (by decide), ← t 1 (by decide), ← t 2 (by decide), ← t 3 (by decide), ← t 4 (by decide), ← t 5 (by decide), ← t 6 (by decide), ← t 7 (by decide)]
  rfl
theorem synd_burst {L : List Nat} {b : Nat} (h0 : L ≠ []) (hb : b < 49) (hL : ∀ x ∈ L, b ≤ x ∧ x < b + 8) : synd (ind L) ≠ 0 := by
  rw [show synd (ind L) = synd (part (ind L) b 8) from synd_congr fun j _ => by
    unfold part ind
    by_cases h : j ∈ L
    · simp [h, hL j h]
    · simp [h], synd_part, XE_Y _ hb]
  have hm : mOf (ind L) b < 256 := by
    have h0 := toNat_lt (ind L b); have h1 := toNat_lt (ind L (b + 1)); have h2 := toNat_lt (ind L (b + 2)); have h3 := toNat_lt (ind L (b + 3)); have h4 := toNat_lt (ind L (b + 4)); have h5 := toNat_lt (ind L (b + 5)); have h6 := toNat_lt (ind L (b + 6)); have h7 := toNat_lt (ind L (b + 7))
    unfold mOf; omega
  refine Y_ne0 b hb _ hm fun e => ?_
  match L, h0, hL with
  | x :: r, _, hL =>
    have hx := hL x (by simp)
    have q := (mOf_bit (ind (x :: r)) b (x - b) (by omega)).mpr (by rw [show b + (x - b) = x by omega]; simp [ind])
    rw [e] at q
    simp at q
/-- a cell of which some bits are turned has a wrong check -/
theorem turned_bad {load : List Int} {E : Nat → Bool} (hl : load.length = 48) (hb : ∀ x ∈ load, isBit x) (h : synd E ≠ 0) :
    (flipL E 0 (load ++ fixL 8 (chk load))).drop 48 ≠ fixL 8 (chk ((flipL E 0 (load ++ fixL 8 (chk load))).take 48)) := by
  rw [flipL_append, hl, Nat.zero_add, List.drop_left' (by rw [flipL_len, hl]), List.take_left' (by rw [flipL_len, hl]), flip_fix]
  have e1 : chk (flipL E 0 load) = chk load ^^^ cfE E 0 0 48 := by
    have := cf_flip E load 0 0 0 (by decide) (by decide) hb
    rw [hl] at this
    exact this
  rw [e1]
  intro e
  have l1 : maskN E 48 8 < 256 := by
    have h0 := toNat_lt (E (48 + 0)); have h1 := toNat_lt (E (48 + 1)); have h2 := toNat_lt (E (48 + 2)); have h3 := toNat_lt (E (48 + 3)); have h4 := toNat_lt (E (48 + 4)); have h5 := toNat_lt (E (48 + 5)); have h6 := toNat_lt (E (48 + 6)); have h7 := toNat_lt (E (48 + 7))
    simp only [maskN]; omega
  have l2 : cfE E 0 0 48 < 256 := by
    have : ∀ n d i, d < 256 → cfE E d i n < 256 := by
      intro n
      induction n with
      | zero => intro d i h; exact h
      | succ n ih => intro d i _; exact ih _ _ (stp_lt _ _)
    exact this 48 0 0 (by decide)
  have e2 := congrArg numL e
  rw [num_fixL 8 _ (Nat.xor_lt_two_pow (n := 8) (chk_lt _) l1), num_fixL 8 _ (Nat.xor_lt_two_pow (n := 8) (chk_lt _) l2)] at e2
  have e3 : chk load ^^^ maskN E 48 8 = chk load ^^^ cfE E 0 0 48 := Int.ofNat.inj e2
  have e4 : maskN E 48 8 = cfE E 0 0 48 := by
    have := congrArg (fun z => chk load ^^^ z) e3
    simpa [← Nat.xor_assoc] using this
  exact h (by unfold synd; rw [e4, Nat.xor_self])
end SecCrc
/-! ### codes of counts -/
theorem pad_ok {i : Int} (h : 0 ≤ i ∧ i ≤ 10000) : PadOk i = true := by
  unfold PadOk fitsSsize Builtin.Str.tooLong
  have e : sizeLine = 16777216 := by decide
  simp [e]
  omega
/-- how many binary digits a number has -/
def blen (n : Nat) : Nat := if n = 0 then 0 else n.log2 + 1
theorem blen_lt (n : Nat) : n < 2 ^ blen n := by
  unfold blen
  split
  · subst_vars; decide
  · exact (Nat.log2_lt (by assumption)).mp (Nat.lt_succ_self _)
theorem intBits_blen {n : Int} (h : 0 ≤ n) : (Builtin.Int.intBits n : Nat) = blen n.toNat := by
  unfold Builtin.Int.intBits blen
  by_cases e : n = 0
  · subst e; rfl
  · rw [if_neg (by simpa using e), if_neg (by omega), show n.natAbs = n.toNat by omega]
theorem blen_le {n k : Nat} (h : n < 2 ^ k) : blen n ≤ k := by
  unfold blen
  split
  · omega
  · exact (Nat.log2_lt (by assumption)).mpr h
theorem blen_pos {n : Nat} (h : 0 < n) : 0 < blen n := by unfold blen; rw [if_neg (by omega)]; omega
/-- the code of a count -/
def countL (n : Nat) : List Int := List.replicate (blen (n + 1) - 1) 0 ++ fixL (blen (n + 1)) (n + 1)
def sgn (n : Int) : Nat := if 0 ≤ n then (2 * n).toNat else (-2 * n - 1).toNat
theorem fixL_head {w n : Nat} (h1 : 2 ^ w ≤ n) (h2 : n < 2 ^ (w + 1)) : ∃ t, fixL (w + 1) n = 1 :: t ∧ t.length = w := by
  have e := fixL_at (w + 1) n 0 (by omega)
  have d : n / 2 ^ w = 1 := by
    have a : 1 ≤ n / 2 ^ w := (Nat.le_div_iff_mul_le (Nat.two_pow_pos w)).mpr (by omega)
    have b : n / 2 ^ w < 2 := (Nat.div_lt_iff_lt_mul (Nat.two_pow_pos w)).mpr (by rw [Nat.pow_succ] at h2; omega)
    omega
  rw [show w + 1 - 1 - 0 = w by omega, d] at e
  have hl := fixL_len (w + 1) n
  match h : fixL (w + 1) n with
  | [] => rw [h] at hl; simp at hl
  | x :: t =>
    rw [h] at e hl
    have : x = 1 := by simpa using e
    subst this
    exact ⟨t, rfl, by simpa using hl⟩
/-- the code of a count: so many noughts, a one, as many digits -/
theorem countL_form (c : Nat) (hc : c ≤ 2199023255550) : ∃ (z : Nat) (t : List Int), countL c = List.replicate z 0 ++ 1 :: t ∧ t.length = z ∧ z ≤ 40 ∧ numL (1 :: t) = (c : Int) + 1 ∧ ∀ x ∈ t, isBit x := by
  have hp := blen_pos (n := c + 1) (by omega)
  have h2 := blen_lt (c + 1)
  have h1 : 2 ^ (blen (c + 1) - 1) ≤ c + 1 := by
    unfold blen
    rw [if_neg (by omega)]
    exact (Nat.le_log2 (by omega)).mp (Nat.le_refl _)
  have h3 : blen (c + 1) ≤ 41 := blen_le (by omega)
  have e : blen (c + 1) = (blen (c + 1) - 1) + 1 := by omega
  rw [e] at h2
  obtain ⟨t, ht, hl⟩ := fixL_head h1 h2
  refine ⟨blen (c + 1) - 1, t, ?_, hl, by omega, ?_, fun x hx => ?_⟩
  · unfold countL
    rw [← ht, ← e]
  · rw [← ht, num_fixL _ _ h2]; simp
  · exact fixL_bit _ _ x (ht ▸ List.mem_cons_of_mem _ hx)
theorem countL_len (c : Nat) (hc : c ≤ 2199023255550) : (countL c).length ≤ 81 := by
  obtain ⟨z, t, h, hl, hz, _⟩ := countL_form c hc
  rw [h]; simp [hl]; omega
theorem countL_bit (c : Nat) (hc : c ≤ 2199023255550) : ∀ x ∈ countL c, isBit x := by
  obtain ⟨z, t, h, hl, hz, _, hb⟩ := countL_form c hc
  intro x hx
  rw [h] at hx
  rcases List.mem_append.mp hx with hx | hx
  · exact .inl (List.eq_of_mem_replicate hx)
  · rcases List.mem_cons.mp hx with rfl | hx
    · exact .inr rfl
    · exact hb x hx
/-- noughts from a place on -/
def zrun (bs : List Int) (a : Nat) : Nat := ((bs.drop a).takeWhile fun b => decide (b = 0)).length
/-- what is read at a place -/
def cntR (bs : List Int) (a : Nat) : List V :=
  if 40 < min 41 (zrun bs a) then [.str "long"] else if bs.length < a + min 41 (zrun bs a) + min 41 (zrun bs a) + 1 then [.str "short"]
  else [.str "read", .int (numL ((bs.drop (a + min 41 (zrun bs a))).take (min 41 (zrun bs a) + 1)) - 1), .int ((a + min 41 (zrun bs a) + min 41 (zrun bs a) + 1 : Nat) : Int)]
theorem tw_at {p : Int → Bool} : ∀ (l : List Int) (j : Nat), j < (l.takeWhile p).length → ∃ x, l[j]? = some x ∧ p x = true
  | [], j, h => by simp at h
  | y :: l, j, h => by
    rw [List.takeWhile_cons] at h
    by_cases e : p y = true
    · rw [if_pos e] at h
      cases j with
      | zero => exact ⟨y, rfl, e⟩
      | succ j => exact tw_at l j (by simpa using h)
    · rw [if_neg e] at h; simp at h
theorem tw_end {p : Int → Bool} : ∀ (l : List Int) (x : Int), l[(l.takeWhile p).length]? = some x → p x = false
  | [], x, h => by simp at h
  | y :: l, x, h => by
    rw [List.takeWhile_cons] at h
    by_cases e : p y = true
    · rw [if_pos e] at h
      exact tw_end l x (by simpa using h)
    · rw [if_neg e] at h
      have : y = x := by simpa using h
      subst this
      simpa using e
theorem zrun_at {bs : List Int} {a j : Nat} (h : j < zrun bs a) : bs[a + j]? = some 0 := by
  obtain ⟨x, e, hx⟩ := tw_at (bs.drop a) j h
  rw [List.getElem?_drop] at e
  rw [e]; simpa using hx
theorem zrun_end {bs : List Int} {a : Nat} : bs[a + zrun bs a]? ≠ some 0 := fun e => by
  have := tw_end (p := fun b => decide (b = 0)) (bs.drop a) 0 (by rw [List.getElem?_drop]; exact e)
  simp at this
theorem zrun_le {bs : List Int} {a : Nat} (h : a ≤ bs.length) : a + zrun bs a ≤ bs.length := by
  have : zrun bs a ≤ (bs.drop a).length := (List.takeWhile_sublist _).length_le
  simp at this; omega
theorem tw_rep (z : Nat) (r : List Int) (h : ∀ x, r[0]? = some x → x ≠ 0) : ((List.replicate z (0 : Int) ++ r).takeWhile fun b => decide (b = 0)).length = z := by
  induction z with
  | zero =>
    cases r with
    | nil => simp
    | cons x r => have := h x rfl; simp [this]
  | succ z ih => rw [List.replicate_succ, List.cons_append, List.takeWhile_cons, if_pos (by simp), List.length_cons, ih]
theorem cntR_code {c : Nat} (hc : c ≤ 2199023255550) (A B : List Int) : cntR (A ++ countL c ++ B) A.length = [.str "read", .int c, .int ((A.length + (countL c).length : Nat) : Int)] := by
  obtain ⟨z, t, h, hl, hz, hn, _⟩ := countL_form c hc
  have e : A ++ countL c ++ B = A ++ (List.replicate z 0 ++ (1 :: (t ++ B))) := by rw [h]; simp
  have hzr : zrun (A ++ countL c ++ B) A.length = z := by
    unfold zrun
    rw [e, List.drop_left]
    exact tw_rep z _ (by simp)
  have hlen : (countL c).length = z + (z + 1) := by rw [h]; simp [hl]
  unfold cntR
  rw [hzr, Nat.min_eq_right (by omega), if_neg (by omega), if_neg (by simp [hlen]; omega)]
  congr 2
  · congr 1
    rw [e, show A.length + z = (A ++ List.replicate z (0 : Int)).length by simp, ← List.append_assoc, List.drop_left, show (1 : Int) :: (t ++ B) = (1 :: t) ++ B from rfl, List.take_left' (by simp [hl]), hn]
    omega
  · rw [hlen, show A.length + z + z + 1 = A.length + (z + (z + 1)) by omega]
theorem cntR_short {c : Nat} (hc : c ≤ 2199023255550) (A : List Int) {k : Nat} (hk : k < (countL c).length) : cntR (A ++ (countL c).take k) A.length = [.str "short"] := by
  obtain ⟨z, t, h, hl, hz, hn, _⟩ := countL_form c hc
  have hlen : (countL c).length = z + (z + 1) := by rw [h]; simp [hl]
  have hzr : zrun (A ++ (countL c).take k) A.length = min k z := by
    unfold zrun
    rw [List.drop_left, h]
    by_cases hkz : k ≤ z
    · rw [List.take_append_of_le_length (by simp; omega), List.take_replicate, Nat.min_eq_left hkz]
      have := tw_rep k [] (by simp)
      simpa using this
    · rw [List.take_append, List.take_of_length_le (by simp; omega), Nat.min_eq_right (by omega)]
      refine tw_rep z _ fun x hx => ?_
      rw [List.length_replicate, show k - z = (k - z - 1) + 1 by omega, List.take_succ_cons] at hx
      have : (1 : Int) = x := by simpa using hx
      omega
  unfold cntR
  rw [hzr, if_neg (by omega), if_pos]
  simp; omega
/-! ### lists cut up -/
section CutS
variable {α β : Type}
def chunk (k : Nat) (xs : List α) : List (List α) := if h : xs = [] ∨ k = 0 then [] else xs.take k :: chunk k (xs.drop k)
termination_by xs.length
decreasing_by
  have : xs.length ≠ 0 := fun z => h (.inl (List.eq_nil_of_length_eq_zero z))
  rw [List.length_drop]; omega
theorem chunk_nil (k : Nat) : chunk k ([] : List α) = [] := by rw [chunk]; simp
theorem chunk_cons {k : Nat} {xs : List α} (hk : 0 < k) (hx : xs ≠ []) : chunk k xs = xs.take k :: chunk k (xs.drop k) := by
  rw [chunk, dif_neg (by rintro (h | h); exact hx h; omega)]
/-- by the length -/
theorem len_ind {P : List α → Prop} {k : Nat} (hk : 0 < k) (h0 : P []) (h1 : ∀ xs, xs ≠ [] → P (xs.drop k) → P xs) : ∀ xs, P xs := by
  intro xs
  generalize hn : xs.length = n
  induction n using Nat.strongRecOn generalizing xs with
  | _ n ih =>
    cases xs with
    | nil => exact h0
    | cons x r =>
      refine h1 _ (by simp) (ih ((x :: r).drop k).length ?_ _ rfl)
      rw [List.length_drop, hn]
      simp at hn; omega
theorem chunk_len {k : Nat} (hk : 0 < k) (xs : List α) : (chunk k xs).length = (xs.length + k - 1) / k := by
  refine len_ind (P := fun xs => (chunk k xs).length = (xs.length + k - 1) / k) hk ?_ (fun xs hx ih => ?_) xs
  · rw [chunk_nil]; simp; rw [Nat.div_eq_of_lt (by omega)]
  · have hl : 0 < xs.length := List.length_pos_iff.mpr hx
    rw [chunk_cons hk hx, List.length_cons, ih, List.length_drop]
    by_cases h : k ≤ xs.length
    · rw [show xs.length + k - 1 = (xs.length - k + k - 1) + k by omega, Nat.add_div_right _ hk]
    · rw [show xs.length - k = 0 by omega, Nat.div_eq_of_lt (by omega)]
      rw [show xs.length + k - 1 = (xs.length - 1) + k by omega, Nat.add_div_right _ hk, Nat.div_eq_of_lt (by omega)]
theorem chunk_get {k : Nat} (hk : 0 < k) (xs : List α) : ∀ i, i < (chunk k xs).length → (chunk k xs)[i]? = some ((xs.drop (i * k)).take k) := by
  refine len_ind (P := fun xs => ∀ i, i < (chunk k xs).length → (chunk k xs)[i]? = some ((xs.drop (i * k)).take k)) hk ?_ (fun xs hx ih => ?_) xs
  · rw [chunk_nil]; intro i h; simp at h
  · rw [chunk_cons hk hx]
    intro i hi
    cases i with
    | zero => simp
    | succ i =>
      rw [List.getElem?_cons_succ, ih i (by simpa using hi), List.drop_drop, show k + i * k = (i + 1) * k by rw [Nat.succ_mul]; omega]
theorem chunk_flatten {k : Nat} (hk : 0 < k) (xs : List α) : (chunk k xs).flatten = xs := by
  refine len_ind (P := fun xs => (chunk k xs).flatten = xs) hk ?_ (fun xs hx ih => ?_) xs
  · rw [chunk_nil]; rfl
  · rw [chunk_cons hk hx, List.flatten_cons, ih, List.take_append_drop]
theorem chunk_map {k : Nat} (hk : 0 < k) (f : α → β) (xs : List α) : chunk k (xs.map f) = (chunk k xs).map (·.map f) := by
  refine len_ind (P := fun xs => chunk k (xs.map f) = (chunk k xs).map (·.map f)) hk ?_ (fun xs hx ih => ?_) xs
  · simp [chunk_nil]
  · rw [chunk_cons hk hx, chunk_cons hk (by simpa using hx), List.map_cons, ← ih, List.map_take, List.map_drop]
/-- blocks of k things, the last one of k at most -/
def Blk (k : Nat) : List (List α) → Prop
  | [] => True
  | [b] => 0 < b.length ∧ b.length ≤ k
  | b :: r => b.length = k ∧ Blk k r
theorem Blk.cons {k : Nat} {b c : List α} {r : List (List α)} (h : Blk k (b :: c :: r)) : b.length = k ∧ Blk k (c :: r) := h
theorem chunk_blk {k : Nat} (hk : 0 < k) (xs : List α) : Blk k (chunk k xs) := by
  refine len_ind (P := fun xs => Blk k (chunk k xs)) hk ?_ (fun xs hx ih => ?_) xs
  · rw [chunk_nil]; trivial
  · rw [chunk_cons hk hx]
    have hl : 0 < xs.length := List.length_pos_iff.mpr hx
    cases h : chunk k (xs.drop k) with
    | nil => refine ⟨?_, ?_⟩ <;> rw [List.length_take] <;> omega
    | cons c r =>
      rw [h] at ih
      refine ⟨?_, ih⟩
      have : xs.drop k ≠ [] := fun z => by rw [z, chunk_nil] at h; cases h
      have := List.length_pos_iff.mpr this
      rw [List.length_drop] at this
      rw [List.length_take]; omega
theorem chunk_blocks {k : Nat} (hk : 0 < k) : ∀ bs : List (List α), Blk k bs → chunk k bs.flatten = bs
  | [], _ => chunk_nil k
  | [b], h => by
    have h : 0 < b.length ∧ b.length ≤ k := h
    have hb : b ≠ [] := List.length_pos_iff.mp h.1
    rw [List.flatten_cons, List.flatten_nil, List.append_nil, chunk_cons hk hb, List.take_of_length_le h.2, List.drop_of_length_le h.2, chunk_nil]
  | b :: c :: r, h => by
    have h2 := h.cons
    have hb : b ≠ [] := List.length_pos_iff.mp (by omega)
    rw [List.flatten_cons, chunk_cons hk (by simp [hb]), List.take_left' h2.1, List.drop_left' h2.1, chunk_blocks hk (c :: r) h2.2]
theorem Blk.map {k : Nat} (m : Nat) (f : List α → List β) (hf : ∀ b, (f b).length = b.length + m) : ∀ bs : List (List α), Blk k bs → Blk (k + m) (bs.map f)
  | [], _ => trivial
  | [b], h => by
    have h : 0 < b.length ∧ b.length ≤ k := h
    show 0 < (f b).length ∧ (f b).length ≤ k + m
    rw [hf]; omega
  | b :: c :: r, h => by
    have h2 := h.cons
    refine ⟨by rw [hf, h2.1], ?_⟩
    exact Blk.map m f hf (c :: r) h2.2
/-- the size divides: all blocks are whole -/
theorem chunk_whole {k : Nat} (hk : 0 < k) (xs : List α) : ∀ n, xs.length = n * k → ∀ b ∈ chunk k xs, b.length = k := by
  refine len_ind (P := fun xs => ∀ n, xs.length = n * k → ∀ b ∈ chunk k xs, b.length = k) hk ?_ (fun xs hx ih => ?_) xs
  · rw [chunk_nil]; intro n _ b hb; cases hb
  · intro n hn b hb
    have hl : 0 < xs.length := List.length_pos_iff.mpr hx
    have hn0 : n ≠ 0 := fun z => by rw [z] at hn; omega
    obtain ⟨m, rfl⟩ : ∃ m, n = m + 1 := ⟨n - 1, by omega⟩
    rw [Nat.succ_mul] at hn
    rw [chunk_cons hk hx] at hb
    rcases List.mem_cons.mp hb with rfl | hb
    · rw [List.length_take]; omega
    · exact ih m (by rw [List.length_drop]; omega) b hb
theorem Blk.whole {k : Nat} (hk : 0 < k) : ∀ bs : List (List α), (∀ b ∈ bs, b.length = k) → Blk k bs
  | [], _ => trivial
  | [b], h => by
    have := h b (by simp)
    exact ⟨by omega, by omega⟩
  | b :: c :: r, h => ⟨h b (by simp), Blk.whole hk (c :: r) fun x hx => h x (List.mem_cons_of_mem _ hx)⟩
end CutS
/-! ### cells -/
def isBits (l : List Int) : Prop := ∀ x ∈ l, isBit x
/-- the exclusive-or of some loads -/
def sumC (ls : List (List Int)) : List Int := (List.range 48).map fun i => (ls.map fun l => l.getD i 0).sum % 2
def cellC (l : List Int) : List Int := l ++ fixL 8 (chk l)
def padC (t : List Int) : List Int := t ++ List.replicate ((48 - t.length % 48) % 48) 0
def toldC (bs : List Int) : List Int := countL bs.length ++ bs
def loadsC (bs : List Int) : List (List Int) := chunk 48 (padC (toldC bs))
def grpC (s : List (List Int)) : List (List Int) := (s ++ [sumC s]).map cellC
def cellsC (g : Nat) (ls : List (List Int)) : List (List Int) := ((chunk g ls).map grpC).flatten
def protC (g : Nat) (bs : List Int) : List Int := (cellsC g (loadsC bs)).flatten
theorem sumC_len (ls : List (List Int)) : (sumC ls).length = 48 := by simp [sumC]
theorem sumC_bits (ls : List (List Int)) : isBits (sumC ls) := fun x hx => by
  unfold sumC at hx
  obtain ⟨i, _, rfl⟩ := List.mem_map.mp hx
  unfold isBit; omega
theorem xorB {a b : Int} (ha : isBit a) (hb : isBit b) : Builtin.bitXor a b = (a + b) % 2 := by
  rcases ha with rfl | rfl <;> rcases hb with rfl | rfl <;> decide +kernel
theorem sumC_one {l : List Int} (hl : l.length = 48) (hb : isBits l) : sumC [l] = l := by
  unfold sumC
  refine List.ext_getElem (by simp [hl]) fun i h1 h2 => ?_
  simp [List.getD_eq_getElem?_getD, List.getElem?_eq_getElem h2]
  rcases hb l[i] (List.getElem_mem h2) with e | e <;> rw [e] <;> decide
theorem sumC_snoc {ls : List (List Int)} {l : List Int} (i : Nat) (hi : i < 48) (hl : l.length = 48) : (sumC (ls ++ [l]))[i]? = some ((((sumC ls).getD i 0) + l.getD i 0) % 2) := by
  unfold sumC
  rw [List.getElem?_map, List.getElem?_range hi]
  simp [List.getD_eq_getElem?_getD, List.getElem?_range hi]
theorem cellC_len {l : List Int} (h : l.length = 48) : (cellC l).length = 56 := by simp [cellC, h, fixL_len]
theorem cellC_take {l : List Int} (h : l.length = 48) : (cellC l).take 48 = l := List.take_left' h
theorem cellC_drop {l : List Int} (h : l.length = 48) : (cellC l).drop 48 = fixL 8 (chk l) := List.drop_left' h
theorem cellC_bits {l : List Int} (h : isBits l) : isBits (cellC l) := fun x hx => (List.mem_append.mp hx).elim (h x) (fixL_bit _ _ x)
theorem padC_len (t : List Int) : ∃ n, (padC t).length = n * 48 := by
  unfold padC
  rw [List.length_append, List.length_replicate]
  have h := Nat.div_add_mod t.length 48
  have : t.length % 48 < 48 := Nat.mod_lt _ (by decide)
  by_cases z : t.length % 48 = 0
  · exact ⟨t.length / 48, by rw [z]; simp; omega⟩
  · exact ⟨t.length / 48 + 1, by rw [Nat.mod_eq_of_lt (by omega : 48 - t.length % 48 < 48)]; omega⟩
theorem padC_bits {t : List Int} (h : isBits t) : isBits (padC t) := fun x hx => (List.mem_append.mp hx).elim (h x) fun z => .inl (List.eq_of_mem_replicate z)
theorem toldC_bits {bs : List Int} (hb : isBits bs) (hl : bs.length ≤ 1000000) : isBits (toldC bs) := fun x hx => (List.mem_append.mp hx).elim (countL_bit _ (by omega) x) (hb x)
theorem loads_ok {bs : List Int} (hb : isBits bs) (hl : bs.length ≤ 1000000) : ∀ l ∈ loadsC bs, l.length = 48 ∧ isBits l := fun l hm => by
  obtain ⟨n, hn⟩ := padC_len (toldC bs)
  refine ⟨chunk_whole (by decide) _ n hn l hm, fun x hx => ?_⟩
  refine padC_bits (toldC_bits hb hl) x ?_
  rw [← chunk_flatten (k := 48) (by decide) (padC (toldC bs))]
  exact List.mem_flatten.mpr ⟨l, hm, hx⟩
theorem loads_flat (bs : List Int) : (loadsC bs).flatten = padC (toldC bs) := chunk_flatten (by decide) _
theorem chunk_mem {α : Type} {k : Nat} (hk : 0 < k) {xs : List α} {c : List α} {x : α} (hc : c ∈ chunk k xs) (hx : x ∈ c) : x ∈ xs := by
  rw [← chunk_flatten hk xs]; exact List.mem_flatten.mpr ⟨c, hc, hx⟩
theorem grp_ok {g : Nat} (hg : 0 < g) {ls : List (List Int)} (h : ∀ l ∈ ls, l.length = 48 ∧ isBits l) : ∀ s ∈ chunk g ls, ∀ l ∈ s ++ [sumC s], l.length = 48 ∧ isBits l := fun s hs l hm => by
  rcases List.mem_append.mp hm with hm | hm
  · exact h l (chunk_mem hg hs hm)
  · rw [List.mem_singleton.mp hm]; exact ⟨sumC_len _, sumC_bits _⟩
/-- protected bits, cut into cells and groups again -/
theorem prot_cells {g : Nat} (hg : 0 < g) {ls : List (List Int)} (h : ∀ l ∈ ls, l.length = 48 ∧ isBits l) : chunk 56 (cellsC g ls).flatten = cellsC g ls := by
  refine chunk_blocks (by decide) _ (Blk.whole (by decide) _ fun c hc => ?_)
  unfold cellsC at hc
  obtain ⟨b, hb, hc⟩ := List.mem_flatten.mp hc
  obtain ⟨s, hs, rfl⟩ := List.mem_map.mp hb
  obtain ⟨l, hl, rfl⟩ := List.mem_map.mp hc
  exact cellC_len (grp_ok hg h s hs l hl).1
theorem prot_groups {g : Nat} (hg : 0 < g) (ls : List (List Int)) : chunk (g + 1) (cellsC g ls) = (chunk g ls).map grpC :=
  chunk_blocks (by omega) _ (Blk.map 1 grpC (fun b => by simp [grpC]) _ (chunk_blk hg ls))
theorem Blk.mod {α : Type} {k : Nat} (hk : 2 ≤ k) : ∀ bs : List (List α), Blk k bs → bs ≠ [] → (∀ b ∈ bs, 2 ≤ b.length) → bs.flatten.length % k ≠ 1
  | [], _, h, _ => absurd rfl h
  | [b], h, _, h2 => by
    have h : 0 < b.length ∧ b.length ≤ k := h
    have := h2 b (by simp)
    rw [List.flatten_cons, List.flatten_nil, List.append_nil]
    by_cases e : b.length = k
    · rw [e, Nat.mod_self]; decide
    · rw [Nat.mod_eq_of_lt (by omega)]; omega
  | b :: c :: r, h, _, h2 => by
    have h3 := h.cons
    have ih := Blk.mod hk (c :: r) h3.2 (by simp) fun x hx => h2 x (List.mem_cons_of_mem _ hx)
    rw [List.flatten_cons, List.length_append, h3.1, Nat.add_mod_left]
    exact ih
theorem blk_pos {α : Type} {k : Nat} (hk : 0 < k) : ∀ bs : List (List α), Blk k bs → ∀ b ∈ bs, 0 < b.length
  | [], _, _, h => by cases h
  | [x], h, b, hb => by
    have h : 0 < x.length ∧ x.length ≤ k := h
    rw [List.mem_singleton.mp hb]; exact h.1
  | x :: y :: r, h, b, hb => by
    have h2 := h.cons
    rcases List.mem_cons.mp hb with rfl | hb
    · omega
    · exact blk_pos hk (y :: r) h2.2 b hb
theorem chunk_ne {α : Type} {k : Nat} (hk : 0 < k) {xs : List α} (h : xs ≠ []) : chunk k xs ≠ [] := by rw [chunk_cons hk h]; simp
theorem cells_mod {g : Nat} (hg : 0 < g) {L : List (List Int)} (h : L ≠ []) : (cellsC g L).length % (g + 1) ≠ 1 := by
  refine Blk.mod (by omega) _ (Blk.map 1 grpC (fun b => by simp [grpC]) _ (chunk_blk hg L)) (by simpa using chunk_ne hg h) fun b hb => ?_
  obtain ⟨s, hs, rfl⟩ := List.mem_map.mp hb
  have := blk_pos hg _ (chunk_blk hg L) s hs
  simp [grpC]; omega
theorem cells_pos {g : Nat} (hg : 0 < g) {L : List (List Int)} (h : L ≠ []) : 0 < (cellsC g L).length := by
  cases e : (cellsC g L).length with
  | succ n => omega
  | zero =>
    have hc := chunk_ne hg h
    unfold cellsC at e
    cases z : chunk g L with
    | nil => exact absurd z hc
    | cons s r => rw [z] at e; simp [grpC] at e
theorem cells_mem {g : Nat} (hg : 0 < g) {L : List (List Int)} (h : ∀ l ∈ L, l.length = 48 ∧ isBits l) : ∀ c ∈ cellsC g L, c.length = 56 ∧ isBits c := fun c hc => by
  unfold cellsC at hc
  obtain ⟨b, hb, hc⟩ := List.mem_flatten.mp hc
  obtain ⟨s, hs, rfl⟩ := List.mem_map.mp hb
  obtain ⟨l, hl, rfl⟩ := List.mem_map.mp hc
  have := grp_ok hg h s hs l hl
  exact ⟨cellC_len this.1, cellC_bits this.2⟩
theorem flat_len {α : Type} {k : Nat} : ∀ bs : List (List α), (∀ b ∈ bs, b.length = k) → bs.flatten.length = bs.length * k
  | [], _ => by simp
  | b :: r, h => by
    rw [List.flatten_cons, List.length_append, flat_len r fun x hx => h x (List.mem_cons_of_mem _ hx), h b (by simp), List.length_cons, Nat.succ_mul]; omega
theorem flat_bits : ∀ bs : List (List Int), (∀ b ∈ bs, isBits b) → isBits bs.flatten := fun bs h x hx => by
  obtain ⟨b, hb, hx⟩ := List.mem_flatten.mp hx
  exact h b hb x hx
theorem cells_le {g : Nat} (hg : 0 < g) (L : List (List Int)) : (cellsC g L).length ≤ 2 * L.length := by
  unfold cellsC
  have h : ∀ bs : List (List (List Int)), (∀ b ∈ bs, 0 < b.length) → ((bs.map grpC).flatten).length ≤ 2 * bs.flatten.length := by
    intro bs
    induction bs with
    | nil => intro _; simp
    | cons b r ih =>
      intro hb
      have h1 := hb b (by simp)
      have h2 := ih fun x hx => hb x (List.mem_cons_of_mem _ hx)
      rw [List.map_cons, List.flatten_cons, List.flatten_cons, List.length_append, List.length_append]
      have : (grpC b).length = b.length + 1 := by simp [grpC]
      omega
  have := h _ (blk_pos hg _ (chunk_blk hg L))
  rwa [chunk_flatten hg] at this
theorem pre_len {α : Type} {k : Nat} (hk : 0 < k) (xs : List α) (i : Nat) : ((chunk k xs).take i).flatten.length ≤ xs.length := by
  have h := congrArg List.length (chunk_flatten hk xs)
  rw [← List.take_append_drop i (chunk k xs), List.flatten_append, List.length_append] at h
  omega
theorem countL_length (n : Nat) : (countL n).length = blen (n + 1) - 1 + blen (n + 1) := by simp [countL, fixL_len]
theorem padC_length (t : List Int) : (padC t).length = t.length + (48 - t.length % 48) % 48 := by simp [padC]
theorem loads_length (bs : List Int) : (loadsC bs).length = ((toldC bs).length + 47) / 48 := by
  rw [loadsC, chunk_len (by decide), padC_length]
  omega
theorem toldC_length (bs : List Int) : (toldC bs).length = (countL bs.length).length + bs.length := by simp [toldC]
theorem countL_short {n : Nat} (h : n ≤ 400) : (countL n).length ≤ 17 := by
  have : blen (n + 1) ≤ 9 := blen_le (by omega)
  rw [countL_length]; omega
theorem loads_first {bs : List Int} (h : bs.length ≤ 400) : ∃ B, (loadsC bs)[0]? = some (countL bs.length ++ B) := by
  have h0 : 0 < (countL bs.length).length := by
    have := blen_pos (n := bs.length + 1) (by omega)
    rw [countL_length]; omega
  have hl := toldC_length bs
  have hc := countL_short h
  have h1 : 0 < (loadsC bs).length := by rw [loads_length]; omega
  have := chunk_get (k := 48) (by decide) (padC (toldC bs)) 0 h1
  refine ⟨(bs ++ List.replicate ((48 - (toldC bs).length % 48) % 48) 0).take (48 - (countL bs.length).length), ?_⟩
  rw [loadsC, this, Nat.zero_mul, List.drop_zero, padC, toldC, List.append_assoc, List.take_append, List.take_of_length_le (by omega)]
theorem told_cut (bs : List Int) : ((padC (toldC bs)).drop (countL bs.length).length).take bs.length = bs := by
  rw [padC, toldC, List.append_assoc, List.drop_left, List.take_left]
theorem told_rest (bs : List Int) : (padC (toldC bs)).drop ((countL bs.length).length + bs.length) = List.replicate ((48 - (toldC bs).length % 48) % 48) 0 := by
  rw [padC, ← toldC_length, List.drop_left]
/-! ### the check by long division -/
theorem numL_cons (b : Int) (xs : List Int) : numL (b :: xs) = b * 2 ^ xs.length + numL xs := by
  have h : ∀ (xs : List Int) (a : Int), xs.foldl (fun a b => 2 * a + b) a = a * 2 ^ xs.length + xs.foldl (fun a b => 2 * a + b) 0 := by
    intro xs
    induction xs with
    | nil => intro a; simp
    | cons x r ih =>
      intro a
      rw [List.foldl_cons, List.foldl_cons, ih (2 * a + x), ih (2 * 0 + x), List.length_cons, Int.pow_succ]
      rw [Int.add_mul, Int.add_mul]
      simp
      rw [Int.mul_comm 2 a, Int.mul_assoc, Int.mul_comm 2 ((2 : Int) ^ r.length)]
      omega
  unfold numL
  rw [List.foldl_cons, h xs (2 * 0 + b)]
  simp
def numN : List Int → Nat
  | [] => 0
  | b :: r => b.toNat * 2 ^ r.length + numN r
theorem numN_lt : ∀ xs : List Int, isBits xs → numN xs < 2 ^ xs.length
  | [], _ => by decide
  | b :: r, h => by
    have ih := numN_lt r fun x hx => h x (List.mem_cons_of_mem _ hx)
    rw [numN, List.length_cons, Nat.pow_succ]
    rcases h b (by simp) with rfl | rfl
    · simp; omega
    · simp; omega
theorem numN_eq : ∀ xs : List Int, isBits xs → numL xs = (numN xs : Int)
  | [], _ => rfl
  | b :: r, h => by
    rw [numL_cons, numN, numN_eq r fun x hx => h x (List.mem_cons_of_mem _ hx)]
    rcases h b (by simp) with rfl | rfl <;> simp
def DN (h : Nat) (xs : List Int) : Nat := (h * 2 ^ xs.length) ^^^ (256 * numN xs)
theorem xor_shift (a b m : Nat) : (a ^^^ b) * 2 ^ m = a * 2 ^ m ^^^ b * 2 ^ m := by
  rw [← Nat.shiftLeft_eq, ← Nat.shiftLeft_eq, ← Nat.shiftLeft_eq, Nat.shiftLeft_xor_distrib]
theorem add_xor {a c k : Nat} (h : c < 2 ^ k) : a * 2 ^ k + c = a * 2 ^ k ^^^ c := by
  refine Nat.eq_of_testBit_eq fun j => ?_
  rw [Nat.testBit_xor, Nat.mul_comm a, Nat.testBit_two_pow_mul_add a h j, Nat.testBit_two_pow_mul]
  by_cases hj : j < k
  · simp [hj, show ¬ k ≤ j by omega]
  · have : c.testBit j = false := Nat.testBit_lt_two_pow (Nat.lt_of_lt_of_le h (Nat.pow_le_pow_right (by decide) (by omega)))
    simp [hj, this, show k ≤ j by omega]
theorem stp_div : ∀ h < 256, ∀ b < 2, 2 * h ^^^ 256 * b = stp h b ^^^ (if (h / 128) ^^^ b = 1 then 263 else 0) := by decide +kernel
theorem DN_lt {h : Nat} {xs : List Int} (hh : h < 256) (hx : isBits xs) : DN h xs < 2 ^ (xs.length + 8) := by
  have h2 := numN_lt xs hx
  refine Nat.xor_lt_two_pow ?_ ?_
  · rw [Nat.pow_add, Nat.mul_comm]
    exact Nat.mul_lt_mul_of_pos_left (by omega) (Nat.two_pow_pos _)
  · rw [Nat.pow_add, show (2 : Nat) ^ 8 = 256 by decide]; omega
theorem DN_step {h : Nat} {b : Int} {xs : List Int} (hh : h < 256) (hb : isBit b) (hx : isBits xs) :
    DN h (b :: xs) = DN (stp h b.toNat) xs ^^^ ((if (h / 128) ^^^ b.toNat = 1 then 263 else 0) * 2 ^ xs.length) := by
  have h2 := numN_lt xs hx
  unfold DN
  rw [List.length_cons, numN]
  have e1 : h * 2 ^ (xs.length + 1) = 2 * h * 2 ^ xs.length := by rw [Nat.pow_succ, Nat.mul_comm 2 h, Nat.mul_assoc, Nat.mul_comm 2]
  have e2 : 256 * (b.toNat * 2 ^ xs.length + numN xs) = 256 * b.toNat * 2 ^ xs.length ^^^ 256 * numN xs := by
    have e3 : 256 * b.toNat * 2 ^ xs.length = b.toNat * 2 ^ (xs.length + 8) := by rw [Nat.pow_add, show (2 : Nat) ^ 8 = 256 by decide, Nat.mul_comm 256, Nat.mul_assoc, Nat.mul_comm 256]
    rw [Nat.mul_add, ← Nat.mul_assoc, e3]
    exact add_xor (by rw [Nat.pow_add, show (2 : Nat) ^ 8 = 256 by decide]; omega)
  rw [e1, e2, ← Nat.xor_assoc, ← xor_shift, stp_div h hh b.toNat (bit_lt hb), xor_shift, Nat.xor_assoc, Nat.xor_assoc, Nat.xor_comm (_ * 2 ^ xs.length) (256 * numN xs)]
theorem DN_bit {h : Nat} {b : Int} {xs : List Int} (hh : h < 256) (hb : isBit b) (hx : isBits xs) : (DN h (b :: xs) / 2 ^ (xs.length + 8) % 2 = 1) ↔ ((h / 128) ^^^ b.toNat = 1) := by
  rw [DN_step hh hb hx]
  have hlt := DN_lt (h := stp h b.toNat) (stp_lt _ _) hx
  have t1 : (DN (stp h b.toNat) xs).testBit (xs.length + 8) = false := Nat.testBit_lt_two_pow hlt
  have key : (DN (stp h b.toNat) xs ^^^ ((if (h / 128) ^^^ b.toNat = 1 then 263 else 0) * 2 ^ xs.length)).testBit (xs.length + 8) = decide ((h / 128) ^^^ b.toNat = 1) := by
    rw [Nat.testBit_xor, t1, Nat.mul_comm, Nat.testBit_two_pow_mul]
    by_cases c : (h / 128) ^^^ b.toNat = 1
    · rw [if_pos c]; simp [c]; decide
    · rw [if_neg c]; simp [c]
  rw [Nat.testBit_eq_decide_div_mod_eq] at key
  by_cases c : (h / 128) ^^^ b.toNat = 1
  · rw [decide_eq_true c] at key
    exact ⟨fun _ => c, fun _ => of_decide_eq_true key⟩
  · rw [decide_eq_false c] at key
    exact ⟨fun z => absurd z (of_decide_eq_false key), fun z => absurd z c⟩
/-! ### a lost load is found again (k61) -/
theorem sum_erase : ∀ (xs : List Int) (k : Nat) (h : k < xs.length), (xs.eraseIdx k).sum = xs.sum - xs[k]
  | [], k, h => absurd h (by simp)
  | x :: r, 0, _ => by simp; omega
  | x :: r, k + 1, h => by
    have ih := sum_erase r k (by simpa using h)
    simp only [List.eraseIdx_cons_succ, List.sum_cons, ih, List.getElem_cons_succ]
    omega
theorem map_erase {α β : Type} (f : α → β) : ∀ (xs : List α) (k : Nat), (xs.eraseIdx k).map f = (xs.map f).eraseIdx k
  | [], _ => by simp
  | x :: r, 0 => rfl
  | x :: r, k + 1 => by simp [map_erase f r k]
/-- a lost load is the exclusive-or of the others -/
theorem sum_others {s : List (List Int)} (h : ∀ l ∈ s, l.length = 48 ∧ isBits l) (k : Nat) (hk : k < (s ++ [sumC s]).length) : sumC ((s ++ [sumC s]).eraseIdx k) = (s ++ [sumC s])[k] := by
  have hl : ∀ l ∈ s ++ [sumC s], l.length = 48 ∧ isBits l := fun l hm => by
    rcases List.mem_append.mp hm with hm | hm
    · exact h l hm
    · rw [List.mem_singleton.mp hm]; exact ⟨sumC_len _, sumC_bits _⟩
  have hm := hl _ (List.getElem_mem hk)
  refine List.ext_getElem (by rw [sumC_len, hm.1]) fun i h1 h2 => ?_
  have hi : i < 48 := by rw [sumC_len] at h1; exact h1
  have e1 : ((s ++ [sumC s]).map fun l => l.getD i 0).sum % 2 = 0 := by
    have : (sumC s).getD i 0 = (s.map fun l => l.getD i 0).sum % 2 := by
      rw [List.getD_eq_getElem?_getD, List.getElem?_eq_getElem (by rw [sumC_len]; exact hi)]
      simp [sumC]
    rw [List.map_append, List.sum_append, List.map_cons, List.map_nil, List.sum_cons, List.sum_nil, this]
    omega
  have hk2 : k < ((s ++ [sumC s]).map fun l => l.getD i 0).length := by rw [List.length_map]; exact hk
  have e2 := sum_erase ((s ++ [sumC s]).map fun l => l.getD i 0) k hk2
  have e3 : (sumC ((s ++ [sumC s]).eraseIdx k))[i]'h1 = (((s ++ [sumC s]).eraseIdx k).map fun l => l.getD i 0).sum % 2 := by simp [sumC]
  refine e3.trans ?_
  rw [map_erase, e2, List.getElem_map]
  have e4 : ((s ++ [sumC s])[k]).getD i 0 = ((s ++ [sumC s])[k])[i]'h2 := by rw [List.getD_eq_getElem?_getD, List.getElem?_eq_getElem h2]; rfl
  rw [e4]
  have hb := hm.2 _ (List.getElem_mem h2)
  rcases hb with hb | hb <;> rw [hb] <;> omega
def goodI (b : Int) : Bool := decide (0 ≤ b) && decide (b ≤ 1)
theorem all_good {bs : List Int} : bs.all goodI = true ↔ isBits bs := by
  rw [List.all_eq_true]
  refine forall_congr' fun x => forall_congr' fun _ => ?_
  unfold goodI isBit
  simp only [Bool.and_eq_true, decide_eq_true_eq]
  omega
/-! ### opened groups, damaged or not -/
def goodL (c : List Int) : Bool := decide (c.drop 48 = fixL 8 (chk (c.take 48)))
def badI (cs : List (List Int)) : List Nat := (List.range cs.length).filter fun i => !goodL (cs.getD i [])
def fillO (cs : List (List Int)) (k : Nat) : Option (List Int) := if (badI cs).length = 1 then some (sumC ((cs.map (·.take 48)).eraseIdx k)) else none
def stO (cs : List (List Int)) (i : Nat) : List (Option (List Int)) := ((badI cs).take i).foldl (fun ls k => ls.set k (fillO cs k)) (cs.map fun c => some (c.take 48))
def openG (cs : List (List Int)) : List (Option (List Int)) := (stO cs (badI cs).length).dropLast
theorem stO_zero (cs : List (List Int)) : stO cs 0 = cs.map fun c => some (c.take 48) := rfl
theorem stO_succ {cs : List (List Int)} {i : Nat} (h : i < (badI cs).length) : stO cs (i + 1) = (stO cs i).set ((badI cs)[i]) (fillO cs (badI cs)[i]) := by
  unfold stO
  rw [List.take_succ_eq_append_getElem h, List.foldl_append]
  rfl
theorem stO_len (cs : List (List Int)) (i : Nat) : (stO cs i).length = cs.length := by
  unfold stO
  generalize (badI cs).take i = b
  have : ∀ (b : List Nat) (l : List (Option (List Int))), (b.foldl (fun ls k => ls.set k (fillO cs k)) l).length = l.length := by
    intro b
    induction b with
    | nil => intro l; rfl
    | cons x r ih => intro l; rw [List.foldl_cons, ih, List.length_set]
  rw [this, List.length_map]
theorem openG_len (cs : List (List Int)) : (openG cs).length = cs.length - 1 := by rw [openG, List.length_dropLast, stO_len]
theorem badI_lt {cs : List (List Int)} {k : Nat} (h : k ∈ badI cs) : k < cs.length := by
  unfold badI at h
  exact List.mem_range.mp (List.mem_filter.mp h).1
theorem badI_mem {cs : List (List Int)} {k : Nat} : k ∈ badI cs ↔ ∃ h : k < cs.length, goodL cs[k] = false := by
  unfold badI
  rw [List.mem_filter, List.mem_range]
  constructor
  · rintro ⟨h, e⟩
    refine ⟨h, ?_⟩
    rw [List.getD_eq_getElem?_getD, List.getElem?_eq_getElem h] at e
    simpa using e
  · rintro ⟨h, e⟩
    refine ⟨h, ?_⟩
    rw [List.getD_eq_getElem?_getD, List.getElem?_eq_getElem h]
    simpa using e
theorem badI_nodup (cs : List (List Int)) : (badI cs).Nodup := List.Pairwise.filter _ List.nodup_range
/-- the loads at each place -/
theorem openG_at {cs : List (List Int)} {i : Nat} (h : i + 1 < cs.length) : (openG cs)[i]? = some (if i ∈ badI cs then fillO cs i else some ((cs.getD i []).take 48)) := by
  have key : ∀ (b : List Nat) (l : List (Option (List Int))) (i : Nat), i < l.length → (b.foldl (fun ls k => ls.set k (fillO cs k)) l)[i]? = if i ∈ b then some (fillO cs i) else l[i]? := by
    intro b
    induction b with
    | nil => intro l i h; simp
    | cons x r ih =>
      intro l i h
      rw [List.foldl_cons, ih _ _ (by rw [List.length_set]; exact h)]
      by_cases e : i ∈ r
      · rw [if_pos e, if_pos (List.mem_cons_of_mem _ e)]
      · rw [if_neg e]
        by_cases e2 : i = x
        · subst e2
          rw [if_pos (List.mem_cons_self ..), List.getElem?_set_self h]
        · rw [if_neg (by simp [e, e2]), List.getElem?_set_ne (fun z => e2 z.symm)]
  unfold openG
  rw [List.dropLast_eq_take, List.getElem?_take_of_lt (by rw [stO_len]; omega)]
  unfold stO
  rw [List.take_length, key _ _ _ (by rw [List.length_map]; omega)]
  by_cases e : i ∈ badI cs
  · rw [if_pos e, if_pos e]
  · rw [if_neg e, if_neg e, List.getElem?_map, List.getD_eq_getElem?_getD, List.getElem?_eq_getElem (show i < cs.length by omega)]
    rfl
/-- what count_told tells -/
def cntT (l : List Int) : Option (Nat × Nat) :=
  if 40 < min 41 (zrun l 0) then none else if l.length < min 41 (zrun l 0) + min 41 (zrun l 0) + 1 then none
  else if numL ((l.drop (min 41 (zrun l 0))).take (min 41 (zrun l 0) + 1)) - 1 ≤ 1000000 then some ((numL ((l.drop (min 41 (zrun l 0))).take (min 41 (zrun l 0) + 1)) - 1).toNat, min 41 (zrun l 0) + min 41 (zrun l 0) + 1) else none
inductive OpR
  | bits | outside | cells | non
  | told (bs : List (Option Int))
def flatO (L : List (Option (List Int))) : List (Option Int) := (L.map fun o => match o with
  | none => List.replicate 48 none
  | some l => l.map some).flatten
def sizeOk (g n : Nat) : Prop := n % 56 = 0 ∧ n / 56 ≠ 0 ∧ (n / 56) % (g + 1) ≠ 1
instance (g n : Nat) : Decidable (sizeOk g n) := inferInstanceAs (Decidable (_ ∧ _ ∧ _))
def loadsO (g : Nat) (ns : List Int) : List (Option (List Int)) := ((chunk (g + 1) (chunk 56 ns)).map openG).flatten
def endR (L : List (Option (List Int))) (n p : Nat) : OpR :=
  if (n + p + 47) / 48 ≠ L.length then .cells else if some 1 ∈ (flatO L).drop (p + n) then .cells else .told (((flatO L).drop p).take n)
def openL (L : List (Option (List Int))) : OpR := match L with
  | none :: _ => .non
  | some l :: _ => match cntT l with
    | none => .cells
    | some (n, p) => endR L n p
  | [] => .non
def openR (g : Int) (ns : List Int) : OpR :=
  if ns.all goodI = false then .bits else if ¬ (1 ≤ g ∧ g ≤ 8) then .outside else if ¬ sizeOk g.toNat ns.length then .cells else openL (loadsO g.toNat ns)
theorem chunk_two {k : Nat} (hk : 1 < k) {cs : List (List Int)} : cs.length % k ≠ 1 → ∀ s ∈ chunk k cs, 2 ≤ s.length := by
  refine len_ind (k := k) (P := fun cs => cs.length % k ≠ 1 → ∀ s ∈ chunk k cs, 2 ≤ s.length) (by omega) ?_ (fun xs hx ih => ?_) cs
  · rw [chunk_nil]; intro _ s hs; cases hs
  · intro hm s hs
    have hl : 0 < xs.length := List.length_pos_iff.mpr hx
    rw [chunk_cons (by omega) hx] at hs
    by_cases h : k ≤ xs.length
    · rcases List.mem_cons.mp hs with rfl | hs
      · rw [List.length_take]; omega
      · refine ih ?_ s hs
        rw [List.length_drop]
        rwa [Nat.mod_eq_sub_mod h] at hm
    · have h1 : xs.length % k = xs.length := Nat.mod_eq_of_lt (by omega)
      rw [List.drop_of_length_le (by omega), chunk_nil, List.mem_singleton] at hs
      rw [hs, List.length_take]; omega
theorem openG_lds {k : Nat} {cs : List (List Int)} (hC : ∀ c ∈ cs, c.length = 56 ∧ isBits c) : ∀ o ∈ ((chunk (k + 1) cs).map openG).flatten, ∀ l, o = some l → l.length = 48 ∧ isBits l := fun o ho l hl => by
  obtain ⟨L, hL, ho⟩ := List.mem_flatten.mp ho
  obtain ⟨s, hs, rfl⟩ := List.mem_map.mp hL
  obtain ⟨i, hi⟩ := List.getElem?_of_mem ho
  have hil := (List.getElem?_eq_some_iff.mp hi).1
  rw [openG_len] at hil
  rw [openG_at (by omega)] at hi
  by_cases e : i ∈ badI s
  · rw [if_pos e] at hi
    unfold fillO at hi
    split at hi
    · obtain rfl : l = _ := Option.some.inj (hl.symm.trans (Option.some.inj hi).symm)
      exact ⟨sumC_len _, sumC_bits _⟩
    · rw [hl] at hi; cases hi
  · rw [if_neg e] at hi
    obtain rfl : l = _ := Option.some.inj (hl.symm.trans (Option.some.inj hi).symm)
    have hc : s.getD i [] ∈ s := by
      rw [List.getD_eq_getElem?_getD, List.getElem?_eq_getElem (show i < s.length by omega)]
      exact List.getElem_mem _
    have := hC _ (chunk_mem (by omega) hs hc)
    exact ⟨by rw [List.length_take]; omega, fun x hx => this.2 x (List.mem_of_mem_take hx)⟩
theorem loadsO_ne {k : Nat} (hk : 0 < k) {cs : List (List Int)} (h0 : cs.length ≠ 0) (h1 : cs.length % (k + 1) ≠ 1) : ((chunk (k + 1) cs).map openG).flatten ≠ [] := fun e => by
  have hne : cs ≠ [] := fun z => h0 (by rw [z]; rfl)
  have hc := chunk_ne (k := k + 1) (by omega) hne
  have h2 := chunk_two (k := k + 1) (by omega) h1
  cases z : chunk (k + 1) cs with
  | nil => exact hc z
  | cons s r =>
    rw [z] at e h2
    have := h2 s (by simp)
    have e2 := congrArg List.length e
    rw [List.map_cons, List.flatten_cons, List.length_append, openG_len] at e2
    simp at e2; omega
theorem flatO_len : ∀ L : List (Option (List Int)), (∀ o ∈ L, ∀ l, o = some l → l.length = 48) → (flatO L).length = L.length * 48
  | [], _ => rfl
  | o :: r, h => by
    have ih := flatO_len r fun x hx => h x (List.mem_cons_of_mem _ hx)
    have h0 := h o (by simp)
    have e : flatO (o :: r) = flatO [o] ++ flatO r := by simp [flatO]
    rw [e, List.length_append, ih, List.length_cons, Nat.succ_mul]
    have : (flatO [o]).length = 48 := by
      cases o with
      | none => simp [flatO]
      | some l => simp [flatO, h0 l rfl]
    omega
/-! ### changed cells (k61) -/
structure Chd (m : Nat → Bool) (cs ch : List (List Int)) : Prop where
  le : ch.length ≤ cs.length
  at' : ∀ j c, ch[j]? = some c → (c.length = 56 ∧ isBits c) ∧ goodL c = !m j ∧ (m j = false → cs[j]? = some c)
theorem Chd.nil {m : Nat → Bool} {cs : List (List Int)} : Chd m cs [] := ⟨by simp, fun j c h => by simp at h⟩
theorem Chd.snoc {m : Nat → Bool} {cs ch : List (List Int)} {c : List Int} (h : Chd m cs ch) (hl : ch.length < cs.length) (hc : c.length = 56 ∧ isBits c) (hg : goodL c = !m ch.length) (hk : m ch.length = false → cs[ch.length]? = some c) : Chd m cs (ch ++ [c]) :=
  ⟨by rw [List.length_append, List.length_singleton]; omega, fun j x hx => by
    by_cases e : j < ch.length
    · rw [List.getElem?_append_left e] at hx
      exact h.at' j x hx
    · have hj := (List.getElem?_eq_some_iff.mp hx).1
      rw [List.length_append, List.length_singleton] at hj
      have : j = ch.length := by omega
      subst this
      rw [List.getElem?_append_right (Nat.le_refl _), Nat.sub_self] at hx
      obtain rfl := Option.some.inj hx
      exact ⟨hc, hg, hk⟩⟩
theorem Chd.congr {m m' : Nat → Bool} {cs ch : List (List Int)} (h : Chd m cs ch) (e : ∀ j < ch.length, m j = m' j) : Chd m' cs ch :=
  ⟨h.le, fun j c hc => by rw [← e j (List.getElem?_eq_some_iff.mp hc).1]; exact h.at' j c hc⟩
theorem Chd.part {m : Nat → Bool} {cs ch : List (List Int)} (h : Chd m cs ch) (he : ch.length = cs.length) (a k : Nat) : Chd (fun j => m (a + j)) ((cs.drop a).take k) ((ch.drop a).take k) :=
  ⟨by rw [List.length_take, List.length_take, List.length_drop, List.length_drop]; omega, fun j c hc => by
    have hj : j < k := by
      have := (List.getElem?_eq_some_iff.mp hc).1
      rw [List.length_take] at this; omega
    rw [List.getElem?_take_of_lt hj, List.getElem?_drop] at hc
    rw [List.getElem?_take_of_lt hj, List.getElem?_drop]
    exact h.at' _ c hc⟩
theorem grpC_at {s : List (List Int)} {j : Nat} (h : j < s.length + 1) : (grpC s)[j]? = some (cellC ((s ++ [sumC s]).getD j [])) := by
  unfold grpC
  have h2 : j < (s ++ [sumC s]).length := by simp; omega
  rw [List.getElem?_map, List.getD_eq_getElem?_getD, List.getElem?_eq_getElem h2]; rfl
theorem bad_iff {m : Nat → Bool} {cs c : List (List Int)} (h : Chd m cs c) {j : Nat} : j ∈ badI c ↔ j < c.length ∧ m j = true := by
  rw [badI_mem]
  constructor
  · rintro ⟨hj, e⟩
    have := (h.at' j _ (List.getElem?_eq_getElem hj)).2.1
    rw [e] at this
    exact ⟨hj, by simpa using this.symm⟩
  · rintro ⟨hj, e⟩
    have := (h.at' j _ (List.getElem?_eq_getElem hj)).2.1
    rw [e] at this
    exact ⟨hj, by simpa using this⟩
theorem one_nodup {l : List Nat} {k : Nat} (hn : l.Nodup) (hk : k ∈ l) (h : ∀ x ∈ l, x = k) : l.length = 1 := by
  match l, hn, hk, h with
  | [x], _, _, _ => rfl
  | x :: y :: r, hn, _, h =>
    have e1 := h x (by simp)
    have e2 := h y (by simp)
    rw [List.nodup_cons] at hn
    exact absurd (by rw [e1, e2]; simp : x ∈ y :: r) hn.1
theorem two_len {l : List Nat} {a b : Nat} (ha : a ∈ l) (hb : b ∈ l) (n : a ≠ b) : l.length ≠ 1 := fun e => by
  match l, e, ha, hb with
  | [x], _, ha, hb =>
    rw [List.mem_singleton] at ha hb
    exact n (ha.trans hb.symm)
theorem open_group {s c : List (List Int)} {m lost : Nat → Bool} (hs : ∀ l ∈ s, l.length = 48 ∧ isBits l) (h : Chd m (grpC s) c) (hl : c.length = s.length + 1)
    (hm : ((∀ j j', j < s.length + 1 → j' < s.length + 1 → m j = true → m j' = true → j = j') ∧ ∀ j < s.length, lost j = false) ∨ ((∃ a b, a ≠ b ∧ a < s.length + 1 ∧ b < s.length + 1 ∧ m a = true ∧ m b = true) ∧ ∀ j < s.length, lost j = m j)) :
    openG c = (List.range s.length).map fun j => if lost j = true then none else some (s.getD j []) := by
  have hsl : ∀ l ∈ s ++ [sumC s], l.length = 48 ∧ isBits l := fun l hm => by
    rcases List.mem_append.mp hm with hm | hm
    · exact hs l hm
    · rw [List.mem_singleton.mp hm]; exact ⟨sumC_len _, sumC_bits _⟩
  have keep : ∀ j, j < s.length + 1 → m j = false → ∀ x, c[j]? = some x → x.take 48 = (s ++ [sumC s]).getD j [] := fun j hj hmj x hx => by
    have e := (h.at' j x hx).2.2 hmj
    rw [grpC_at hj] at e
    rw [← Option.some.inj e]
    refine cellC_take (hsl _ ?_).1
    have h2 : j < (s ++ [sumC s]).length := by simp; omega
    rw [List.getD_eq_getElem?_getD, List.getElem?_eq_getElem h2]
    exact List.getElem_mem h2
  have sD : ∀ j, j < s.length → (s ++ [sumC s]).getD j [] = s.getD j [] := fun j hj => by
    rw [List.getD_eq_getElem?_getD, List.getD_eq_getElem?_getD, List.getElem?_append_left hj]
  refine List.ext_getElem? fun j => ?_
  by_cases hj : j < s.length
  rotate_left
  · rw [List.getElem?_eq_none (by rw [openG_len]; omega), List.getElem?_eq_none (by simp; omega)]
  rw [openG_at (by omega), List.getElem?_map, List.getElem?_range hj, Option.map_some]
  congr 1
  have hjc : j < c.length := by omega
  by_cases hb : j ∈ badI c
  · have hmj := ((bad_iff h).mp hb).2
    rw [if_pos hb]
    unfold fillO
    rcases hm with ⟨h1, h2⟩ | ⟨⟨a, b, nab, ha, hb2, ma, mb⟩, h2⟩
    · have hone := one_nodup (badI_nodup c) hb (fun x hx => by
        have := (bad_iff h).mp hx
        exact h1 x j (by omega) (by omega) this.2 hmj)
      rw [if_pos hone, if_neg (by rw [h2 j hj]; simp)]
      congr 1
      have hks : j < (s ++ [sumC s]).length := by simp; omega
      have e : (c.map (·.take 48)).eraseIdx j = (s ++ [sumC s]).eraseIdx j := by
        refine List.ext_getElem? fun i => ?_
        have key : ∀ i, i ≠ j → (c.map (·.take 48))[i]? = (s ++ [sumC s])[i]? := fun i ne => by
          by_cases hi : i < s.length + 1
          · have hic : i < c.length := by omega
            have his : i < (s ++ [sumC s]).length := by simp; omega
            have hmi : m i = false := by
              cases z : m i with
              | false => rfl
              | true => exact absurd (h1 i j hi (by omega) z hmj) ne
            rw [List.getElem?_map, List.getElem?_eq_getElem hic, Option.map_some, keep i hi hmi _ (List.getElem?_eq_getElem hic), List.getD_eq_getElem?_getD, List.getElem?_eq_getElem his]; rfl
          · rw [List.getElem?_eq_none (by rw [List.length_map]; omega), List.getElem?_eq_none (by simp; omega)]
        rw [List.getElem?_eraseIdx, List.getElem?_eraseIdx]
        split
        · exact key i (by omega)
        · exact key (i + 1) (by omega)
      rw [e, sum_others hs j hks, ← sD j hj, List.getD_eq_getElem?_getD, List.getElem?_eq_getElem hks]; rfl
    · have htwo := two_len ((bad_iff h).mpr ⟨by omega, ma⟩) ((bad_iff h).mpr ⟨by omega, mb⟩) nab
      rw [if_neg htwo, if_pos (by rw [h2 j hj]; exact hmj)]
  · have hmj : m j = false := by
      cases z : m j with
      | false => rfl
      | true => exact absurd ((bad_iff h).mpr ⟨hjc, z⟩) hb
    rw [if_neg hb]
    have hlo : lost j = false := by
      rcases hm with ⟨_, h2⟩ | ⟨_, h2⟩
      · exact h2 j hj
      · rw [h2 j hj]; exact hmj
    rw [if_neg (by rw [hlo]; simp), List.getD_eq_getElem?_getD, List.getElem?_eq_getElem hjc]
    show some ((c[j]).take 48) = _
    rw [keep j (by omega) hmj _ (List.getElem?_eq_getElem hjc), sD j hj]
def maskL (lost : Nat → Bool) (ls : List (List Int)) : List (Option (List Int)) := (List.range ls.length).map fun t => if lost t = true then none else some (ls.getD t [])
/-- two marked cells in a group lose their loads, one is found again -/
def Marks (g n : Nat) (m lost : Nat → Bool) : Prop := ∀ i, ((∀ j j', j < g + 1 → j' < g + 1 → i * (g + 1) + j < n → i * (g + 1) + j' < n → m (i * (g + 1) + j) = true → m (i * (g + 1) + j') = true → j = j') ∧ ∀ j < g, lost (i * g + j) = false) ∨
    ((∃ a b, a ≠ b ∧ a < g + 1 ∧ b < g + 1 ∧ i * (g + 1) + a < n ∧ i * (g + 1) + b < n ∧ m (i * (g + 1) + a) = true ∧ m (i * (g + 1) + b) = true) ∧ ∀ j < g, lost (i * g + j) = m (i * (g + 1) + j))
theorem open_all {g : Nat} (hg : 0 < g) {ls ch : List (List Int)} {m lost : Nat → Bool} (hs : ∀ l ∈ ls, l.length = 48 ∧ isBits l) (h : Chd m (cellsC g ls) ch) (hl : ch.length = (cellsC g ls).length) (hm : Marks g ch.length m lost) :
    ((chunk (g + 1) ch).map openG).flatten = maskL lost ls := by
  have hml : (maskL lost ls).length = ls.length := by simp [maskL]
  suffices e : (chunk (g + 1) ch).map openG = chunk g (maskL lost ls) by rw [e, chunk_flatten hg]
  have hcl : (chunk (g + 1) ch).length = (chunk g ls).length := by
    have e := congrArg List.length (prot_groups hg ls)
    rw [List.length_map] at e
    rw [← e, chunk_len (by omega), chunk_len (by omega), hl]
  refine List.ext_getElem? fun i => ?_
  by_cases hi : i < (chunk g ls).length
  rotate_left
  · rw [List.getElem?_eq_none (by rw [List.length_map]; omega), List.getElem?_eq_none (by rw [chunk_len hg, hml, ← chunk_len hg]; omega)]
  have hi2 : i < (chunk g (maskL lost ls)).length := by rw [chunk_len hg, hml, ← chunk_len hg]; exact hi
  rw [List.getElem?_map, chunk_get (by omega) ch i (by omega), chunk_get hg _ i hi2, Option.map_some]
  congr 1
  obtain ⟨s, hse⟩ : ∃ s, (chunk g ls)[i]? = some s := ⟨_, List.getElem?_eq_getElem hi⟩
  have hs2 := hse
  rw [chunk_get hg ls i hi] at hs2
  have hs2 := Option.some.inj hs2
  have hgs : (chunk (g + 1) (cellsC g ls))[i]? = some (grpC s) := by rw [prot_groups hg, List.getElem?_map, hse]; rfl
  have hi3 : i < (chunk (g + 1) (cellsC g ls)).length := (List.getElem?_eq_some_iff.mp hgs).1
  rw [chunk_get (by omega) _ i hi3] at hgs
  have hgs := Option.some.inj hgs
  have hp := h.part hl (i * (g + 1)) (g + 1)
  rw [hgs] at hp
  have hcs : ((ch.drop (i * (g + 1))).take (g + 1)).length = s.length + 1 := by
    have e := congrArg List.length hgs
    rw [List.length_take, List.length_drop] at e ⊢
    rw [hl, e]; simp [grpC]
  have hslen : s.length = min g (ls.length - i * g) := by rw [← hs2, List.length_take, List.length_drop]
  have hcs' := hcs
  rw [List.length_take, List.length_drop] at hcs'
  have hsm : ∀ l ∈ s, l.length = 48 ∧ isBits l := fun l hl => hs l (chunk_mem hg (List.mem_of_getElem? hse) hl)
  rw [open_group (lost := fun j => lost (i * g + j)) hsm hp hcs ?_]
  · refine List.ext_getElem? fun j => ?_
    by_cases hj : j < s.length
    rotate_left
    · rw [List.getElem?_eq_none (by simp; omega), List.getElem?_eq_none (by rw [List.length_take, List.length_drop, hml]; omega)]
    rw [List.getElem?_map, List.getElem?_range hj, Option.map_some, List.getElem?_take_of_lt (by omega), List.getElem?_drop]
    unfold maskL
    rw [List.getElem?_map, List.getElem?_range (by omega), Option.map_some]
    have : s.getD j [] = ls.getD (i * g + j) [] := by
      rw [← hs2, List.getD_eq_getElem?_getD, List.getElem?_take_of_lt (by omega), List.getElem?_drop, List.getD_eq_getElem?_getD]
    rw [this]
  · rcases hm i with ⟨h1, h2⟩ | ⟨⟨a, b, nab, ha, hb, ha2, hb2, ma, mb⟩, h2⟩
    · exact .inl ⟨fun j j' hj hj' mj mj' => h1 j j' (by omega) (by omega) (by omega) (by omega) mj mj', fun j hj => h2 j (by omega)⟩
    · exact .inr ⟨⟨a, b, nab, by omega, by omega, ma, mb⟩, fun j hj => h2 j (by omega)⟩
theorem flat_get {α : Type} {k : Nat} (hk : 0 < k) : ∀ (bs : List (List α)) (t : Nat), (∀ b ∈ bs, b.length = k) → bs.flatten[t]? = bs[t / k]?.bind (·[t % k]?)
  | [], t, _ => by simp
  | b :: r, t, h => by
    have hb := h b (by simp)
    rw [List.flatten_cons]
    by_cases ht : t < k
    · rw [List.getElem?_append_left (by omega), Nat.div_eq_of_lt ht, Nat.mod_eq_of_lt ht]; rfl
    · rw [List.getElem?_append_right (by omega), flat_get hk r _ fun x hx => h x (List.mem_cons_of_mem _ hx), hb]
      have e1 : t / k = (t - k) / k + 1 := by
        rw [show t = t - k + k by omega, Nat.add_div_right _ hk]; simp
      have e2 : t % k = (t - k) % k := by
        rw [show t = t - k + k by omega, Nat.add_mod_right]; simp
      rw [e1, e2]; rfl
theorem maskL_at {lost : Nat → Bool} {ls : List (List Int)} {i : Nat} (h : i < ls.length) : (maskL lost ls)[i]? = some (if lost i = true then none else some ls[i]) := by
  unfold maskL
  rw [List.getElem?_map, List.getElem?_range h, Option.map_some, List.getD_eq_getElem?_getD, List.getElem?_eq_getElem h]; rfl
theorem mask_flat {lost : Nat → Bool} {ls : List (List Int)} (hs : ∀ l ∈ ls, l.length = 48) {t : Nat} {b : Int} (h : ls.flatten[t]? = some b) : (flatO (maskL lost ls))[t]? = some (if lost (t / 48) = true then none else some b) := by
  rw [flat_get (by decide) ls t hs] at h
  unfold flatO
  rw [flat_get (k := 48) (by decide) _ t ?_]
  · cases e : ls[t / 48]? with
    | none => rw [e] at h; cases h
    | some l =>
      rw [e] at h
      have hlt := (List.getElem?_eq_some_iff.mp e).1
      have hle := (List.getElem?_eq_some_iff.mp e).2
      rw [List.getElem?_map, maskL_at hlt, Option.map_some]
      by_cases hl : lost (t / 48) = true
      · rw [if_pos hl, if_pos hl]
        show (List.replicate 48 none)[t % 48]? = some none
        rw [List.getElem?_replicate, if_pos (Nat.mod_lt _ (by decide))]
      · rw [if_neg hl, if_neg hl, hle]
        show (l.map some)[t % 48]? = _
        rw [List.getElem?_map]
        rw [show l[t % 48]? = some b from h]; rfl
  · intro b hb
    obtain ⟨o, ho, rfl⟩ := List.mem_map.mp hb
    cases o with
    | none => simp
    | some l =>
      unfold maskL at ho
      obtain ⟨i, hi, e⟩ := List.mem_map.mp ho
      split at e
      · cases e
      · have hi := List.mem_range.mp hi
        rw [← Option.some.inj e, List.getD_eq_getElem?_getD, List.getElem?_eq_getElem hi]
        show (List.map some ls[i]).length = 48
        rw [List.length_map]
        exact hs _ (List.getElem_mem hi)
theorem cntT_of {l : List Int} {n p : Nat} (h : cntR l 0 = [.str "read", .int n, .int p]) (hn : n ≤ 1000000) : cntT l = some (n, p) := by
  unfold cntR at h
  unfold cntT
  by_cases c1 : 40 < min 41 (zrun l 0)
  · rw [if_pos c1] at h; cases h
  rw [if_neg c1] at h ⊢
  simp only [Nat.zero_add] at h
  by_cases c2 : l.length < min 41 (zrun l 0) + min 41 (zrun l 0) + 1
  · rw [if_pos c2] at h; cases h
  rw [if_neg c2] at h ⊢
  injection h with _ h
  injection h with h1 h
  injection h with h2 _
  injection h1 with h1
  injection h2 with h2
  rw [h1, if_pos (by omega)]
  congr 2
  omega
def dueO (lost : Nat → Bool) (bs : List Int) : List (Option Int) := (List.range bs.length).map fun t => if lost (((countL bs.length).length + t) / 48) = true then none else some (bs.getD t 0)
theorem dueO_none (bs : List Int) : dueO (fun _ => false) bs = bs.map some := by
  refine List.ext_getElem? fun i => ?_
  unfold dueO
  by_cases h : i < bs.length
  · rw [List.getElem?_map, List.getElem?_range h, List.getElem?_map, List.getElem?_eq_getElem h]
    show some (some (bs.getD i 0)) = some (some bs[i])
    rw [List.getD_eq_getElem?_getD, List.getElem?_eq_getElem h]; rfl
  · rw [List.getElem?_eq_none (by simp; omega), List.getElem?_eq_none (by simp; omega)]
/-- protected bits, some cells changed, opened -/
theorem open_told {g : Nat} (hg : 0 < g) (hg8 : g ≤ 8) {bs : List Int} {ch : List (List Int)} {m lost : Nat → Bool} (hb : isBits bs) (hbl : bs.length ≤ 400) (h : Chd m (cellsC g (loadsC bs)) ch) (hl : ch.length = (cellsC g (loadsC bs)).length) (hm : Marks g ch.length m lost) :
    openR (g : Int) ch.flatten = if lost 0 = true then .non else .told (dueO lost bs) := by
  have lds := loads_ok hb (by omega)
  have htl := toldC_length bs
  have hLn := loads_length bs
  have h0 : 0 < (countL bs.length).length := by
    have := blen_pos (n := bs.length + 1) (by omega)
    rw [countL_length]; omega
  have hL0 : 0 < (loadsC bs).length := by omega
  have hLne : loadsC bs ≠ [] := List.length_pos_iff.mp hL0
  have hcp := cells_pos hg hLne
  have hcm := cells_mod hg hLne
  have hc56 : ∀ c ∈ ch, c.length = 56 ∧ isBits c := fun c hc => by
    obtain ⟨j, hj⟩ := List.getElem?_of_mem hc
    exact (h.at' j c hj).1
  have hfl := flat_len ch fun c hc => (hc56 c hc).1
  unfold openR
  have hgood : ch.flatten.all goodI = true := all_good.mpr (flat_bits _ fun c hc => (hc56 c hc).2)
  rw [if_neg (by rw [hgood]; simp), if_neg (by omega), Int.toNat_natCast, if_neg (by
    refine fun z => z ⟨by omega, by omega, ?_⟩
    rw [show ch.flatten.length / 56 = ch.length by omega, hl]; exact hcm)]
  have e56 : chunk 56 ch.flatten = ch := chunk_blocks (by decide) _ (Blk.whole (by decide) _ fun c hc => (hc56 c hc).1)
  rw [loadsO, e56, open_all hg lds h hl hm]
  obtain ⟨B, hB⟩ := loads_first hbl
  have h0L := maskL_at (lost := lost) hL0
  rw [List.getElem?_eq_getElem hL0] at hB
  rw [Option.some.inj hB] at h0L
  have hfs : (loadsC bs).flatten = padC (toldC bs) := loads_flat bs
  have hml : (maskL lost (loadsC bs)).length = (loadsC bs).length := by simp [maskL]
  by_cases c0 : lost 0 = true
  · rw [if_pos c0] at h0L ⊢
    cases e : maskL lost (loadsC bs) with
    | nil => rw [e] at h0L; cases h0L
    | cons x r =>
      rw [e] at h0L
      rw [show x = none from Option.some.inj h0L]; rfl
  rw [if_neg c0] at h0L ⊢
  have cr := cntR_code (c := bs.length) (by omega) [] B
  rw [List.nil_append, List.length_nil, Nat.zero_add] at cr
  have ct := cntT_of cr (by omega)
  have eo : openL (maskL lost (loadsC bs)) = endR (maskL lost (loadsC bs)) bs.length (countL bs.length).length := by
    cases e : maskL lost (loadsC bs) with
    | nil => rw [e] at h0L; cases h0L
    | cons x r =>
      rw [e] at h0L
      rw [show x = some (countL bs.length ++ B) from Option.some.inj h0L]
      show (match cntT (countL bs.length ++ B) with
        | none => OpR.cells
        | some (n, p) => endR (some (countL bs.length ++ B) :: r) n p) = _
      rw [ct]
  rw [eo]
  unfold endR
  have h48 : ∀ l ∈ loadsC bs, l.length = 48 := fun l hl => (lds l hl).1
  have hpl : (padC (toldC bs)).length = (loadsC bs).length * 48 := by rw [← hfs]; exact flat_len _ h48
  have hfo : (flatO (maskL lost (loadsC bs))).length = (loadsC bs).length * 48 := by
    rw [flatO_len, hml]
    intro o ho l hl
    unfold maskL at ho
    obtain ⟨i, hi, e⟩ := List.mem_map.mp ho
    rw [hl] at e
    split at e
    · cases e
    · have hi := List.mem_range.mp hi
      rw [← Option.some.inj e, List.getD_eq_getElem?_getD, List.getElem?_eq_getElem hi]
      exact h48 _ (List.getElem_mem hi)
  rw [if_neg (by rw [hml]; omega), if_neg]
  · congr 1
    refine List.ext_getElem? fun t => ?_
    by_cases ht : t < bs.length
    rotate_left
    · rw [List.getElem?_eq_none (by rw [List.length_take]; omega), List.getElem?_eq_none (by simp [dueO]; omega)]
    have hbt : (loadsC bs).flatten[(countL bs.length).length + t]? = some bs[t] := by
      have e := congrArg (fun l => l[t]?) (told_cut bs)
      rw [List.getElem?_take_of_lt ht, List.getElem?_drop, List.getElem?_eq_getElem ht] at e
      rw [hfs]; exact e
    rw [List.getElem?_take_of_lt ht, List.getElem?_drop, mask_flat h48 hbt]
    unfold dueO
    rw [List.getElem?_map, List.getElem?_range ht, Option.map_some, List.getD_eq_getElem?_getD, List.getElem?_eq_getElem ht]; rfl
  · intro hm1
    obtain ⟨t, ht⟩ := List.getElem?_of_mem hm1
    rw [List.getElem?_drop] at ht
    have htl2 := (List.getElem?_eq_some_iff.mp ht).1
    rw [hfo] at htl2
    have hp2 : (countL bs.length).length + bs.length + t < (padC (toldC bs)).length := by omega
    have e0 : (padC (toldC bs))[(countL bs.length).length + bs.length + t]? = some 0 := by
      have e := congrArg (fun l => l[t]?) (told_rest bs)
      rw [List.getElem?_drop, List.getElem?_eq_getElem hp2] at e
      have h2 := (List.getElem?_eq_some_iff.mp e.symm).2
      rw [List.getElem_replicate] at h2
      rw [List.getElem?_eq_getElem hp2, ← h2]
    rw [← hfs] at e0
    rw [mask_flat h48 e0] at ht
    split at ht
    · cases ht
    · cases ht
def SpotsOk (L : List Nat) : Prop := L ≠ [] ∧ (∀ x ∈ L, x < 56) ∧ (L.length ≤ 3 ∨ ∃ b < 49, ∀ x ∈ L, b ≤ x ∧ x < b + 8)
theorem SpotsOk.synd {L : List Nat} (h : SpotsOk L) : synd (ind L) ≠ 0 := by
  obtain ⟨h0, h1, h2 | ⟨b, hb, h3⟩⟩ := h
  · exact synd_small h0 h2 h1
  · exact synd_burst h0 hb h3
theorem flip_bits (E : Nat → Bool) : ∀ (c : List Int) (i : Nat), isBits c → isBits (flipL E i c)
  | [], _, _ => fun x h => absurd h (by simp [flipL])
  | y :: c, i, hb => fun x h => by
    rw [flipL, List.mem_cons] at h
    rcases h with rfl | h
    · have := hb y (by simp)
      unfold isBit at *
      split <;> omega
    · exact flip_bits E c (i + 1) (fun z hz => hb z (by simp [hz])) x h
theorem flip_get {L : List Nat} {c : List Int} {x : Nat} (hx : x < c.length) : (flipL (ind L) 0 c)[x]? = some (if x ∈ L then 1 - c[x] else c[x]) := by
  have q := flipL_at (ind L) c 0 x
  rw [List.getElem?_eq_getElem hx, Nat.zero_add, Option.map_some] at q
  rw [q]
  by_cases h : x ∈ L <;> simp [ind, h]
theorem flip_nil (c : List Int) : flipL (ind []) 0 c = c := by
  refine List.ext_getElem? fun i => ?_
  by_cases h : i < c.length
  · rw [flip_get h, if_neg (by simp), List.getElem?_eq_getElem h]
  · rw [List.getElem?_eq_none (by rw [flipL_len]; omega), List.getElem?_eq_none (by omega)]
theorem flip_set {L : List Nat} {c : List Int} {x : Nat} (hx : x < c.length) (n : x ∉ L) : (flipL (ind L) 0 c).set x (1 - c[x]) = flipL (ind (L ++ [x])) 0 c := by
  refine List.ext_getElem? fun i => ?_
  by_cases h : i < c.length
  · rw [flip_get h]
    by_cases e : i = x
    · subst e
      rw [List.getElem?_set_self (by rw [flipL_len]; exact h), if_pos (by simp)]
    · rw [List.getElem?_set_ne (fun z => e z.symm), flip_get h]
      by_cases m : i ∈ L <;> simp [m, e]
  · rw [List.getElem?_eq_none (by rw [List.length_set, flipL_len]; omega), List.getElem?_eq_none (by rw [flipL_len]; omega)]
theorem flip_bad {l : List Int} {L : List Nat} (hl : l.length = 48) (hb : isBits l) (ok : SpotsOk L) : goodL (flipL (ind L) 0 (cellC l)) = false := decide_eq_false (turned_bad hl hb ok.synd)
/-! ### steps that keep a Src -/
theorem Stp.ofSame {S : Addr → Prop} {F H H' : Hp} (h : Same F H) (s : Same H H') : Stp S F H F H' := ⟨Same.refl F, h.trans s, fun _ _ _ => rfl, fun b o _ e => s b o e, fun b o e => ⟨o, s b o e⟩⟩
theorem Src.st0 {F H F' H' : Hp} {p : Addr} (h : Src F H p) (st : Stp S0 F H F' H') : Src F' H' p := let ⟨_, b, x, y, e, z⟩ := h; ⟨st.fh, (st.fo _ _ e).trans b, x, y, st.same _ _ e, z⟩
theorem Stp.none {S : Addr → Prop} {F H F1 H1 : Hp} {f : Addr} (t : Stp S F H F1 H1) (h : H1 f = none) : H f = none := by
  cases e : H f with
  | none => rfl
  | some o =>
    obtain ⟨o', e'⟩ := t.dom f o e
    rw [h] at e'; cases e'
/-- a new thing beside the source, not frozen -/
theorem scr {F0 F H H0 H2 : Hp} {p q : Addr} {o : HO} (s : Src F H p) (t : Stp (S1 p) F0 H0 F H) (hq : H q = none) (e : upd H q o = H2) :
    Src F H2 p ∧ Stp (S1 p) F0 H0 F H2 ∧ Same H H2 ∧ H2 q = some o ∧ q ≠ p ∧ F q = none ∧ H0 q = none := by
  subst e
  have n := (s.ne hq).symm
  exact ⟨s.upd n (s.1.free hq), t.trans (Stp.cell s.1 hq), (Stp.new (S := S0) (Same.refl _) hq).same, upd_same, n, s.1.free hq, t.none hq⟩
/-- a new thing, frozen -/
theorem frz {F0 F H H0 H2 : Hp} {p q : Addr} {o : HO} (s : Src F H p) (t : Stp (S1 p) F0 H0 F H) (hq : H q = none) (e : upd H q o = H2) :
    ∃ F2, Src F2 H2 p ∧ Stp (S1 p) F0 H0 F2 H2 ∧ Same F F2 ∧ Same H H2 ∧ F2 q = some o ∧ (∀ b o', H b = some o' → F2 b = F b) := by
  subst e
  have n := Stp.new (S := S1 p) (o := o) s.1 hq
  exact ⟨upd F q o, s.new hq, t.trans n, n.ff, (Stp.new (S := S0) (Same.refl _) hq).same, upd_same, n.fo⟩
/-- a callee's new thing, frozen -/
theorem gotZ {F0 F H H0 H2 : Hp} {p q : Addr} {o : HO} (s : Src F H p) (t : Stp (S1 p) F0 H0 F H) (e : Same H H2) (hq : H q = none) (h : H2 q = some o) :
    ∃ F2, Src F2 H2 p ∧ Stp (S1 p) F0 H0 F2 H2 ∧ Same F F2 ∧ F2 q = some o ∧ (∀ b o', H b = some o' → F2 b = F b) := by
  have g := Stp.got (S := S1 p) s.1 e hq h
  refine ⟨upd F q o, ?_, t.trans g, g.ff, upd_same, g.fo⟩
  have s2 := s.of e
  obtain ⟨_, b, x, y, z, w⟩ := s2
  exact ⟨g.fh, by rw [upd_ne (s.ne hq)]; exact b, x, y, z, w⟩
/-- a callee's steps -/
theorem stpZ {F0 F H H0 F2 H2 : Hp} {p : Addr} (s : Src F H p) (t : Stp (S1 p) F0 H0 F H) (g : Stp S0 F H F2 H2) : Src F2 H2 p ∧ Stp (S1 p) F0 H0 F2 H2 := ⟨s.st0 g, t.trans g.up⟩
theorem sameZ {F0 F H H0 H2 : Hp} {p : Addr} (s : Src F H p) (t : Stp (S1 p) F0 H0 F H) (e : Same H H2) : Src F H2 p ∧ Stp (S1 p) F0 H0 F H2 := ⟨s.of e, t.trans (.ofSame s.1 e)⟩
/-- a cell made here is written -/
theorem wrZ {F0 F H H0 : Hp} {p q : Addr} {o : HO} (s : Src F H p) (t : Stp (S1 p) F0 H0 F H) (n : q ≠ p) (fq : F q = none) (h0 : H0 q = none) : Src F (upd H q o) p ∧ Stp (S1 p) F0 H0 F (upd H q o) := ⟨s.upd n fq, t.wrNew h0 fq⟩
/-- a cell made here stands still from now on -/
theorem keepZ {F0 F H H0 : Hp} {p q : Addr} {o : HO} (s : Src F H p) (t : Stp (S1 p) F0 H0 F H) (n : q ≠ p) (fq : F q = none) (h0 : H0 q = none) (h : H q = some o) : ∃ F2, Src F2 H p ∧ Stp (S1 p) F0 H0 F2 H ∧ Same F F2 ∧ F2 q = some o ∧ (∀ b, b ≠ q → F2 b = F b) := by
  have g := t.freeze h0 h fq
  refine ⟨upd F q o, s.frz n.symm g.fh, g, fun b u e => ?_, upd_same, fun b nb => upd_ne nb⟩
  rw [upd_ne (ne_of_none e fq)]; exact e
theorem inV_notin {K : PySem.W.Frag} {H : Hp} {Q : VK} {a : Addr} {ns : List Int} {x : Int} (h : SqL K H a (ns.map V.int)) (q : Q (.bl (!decide (x ∈ ns))) H) : rIn K true (.int x) (.ref a) H Q :=
  ⟨a, _, rfl, .inl h, rfl, flat_ints ns, by rw [if_pos rfl, inV_ints]; exact q⟩
open PySem L2
/-! one step that needs no thought -/
local macro_rules | `(tactic| walk_at "cond") => `(tactic| first
  | decide
  | exact .inl ⟨by decide, by decide⟩
  | exact .inr ⟨by decide, by decide⟩
  | exact ⟨by decide, by decide⟩
  | exact ⟨by decide, by decide, by decide⟩
  | assumption
  | (show (0 : Int) < _; omega)
  | (show (0 : Int) ≤ _; omega)
  | exact .inl ⟨by omega, by omega⟩
  | exact .inr ⟨by omega, by omega⟩
  | exact ⟨by omega, by omega⟩
  | exact ⟨by omega, by omega, by omega⟩)
local macro_rules | `(tactic| walk_at "sq") => `(tactic| first
  | assumption
  | exact SqL.of (by assumption)
  | exact SqT.of (by assumption)
  | exact SqL.of upd_same
  | exact SqT.of upd_same)
local macro_rules | `(tactic| walk_at "r1") => `(tactic| first
  | (with_reducible refine s_seq ?_)
  | (with_reducible refine s_next ?_)
  | (with_reducible refine s_asg ?_)
  | (with_reducible refine s_gname ?_)
  | (with_reducible refine s_ret ?_)
  | (with_reducible refine s_if ?_)
  | (with_reducible refine s_drop ?_)
  | (with_reducible refine s_op ?_)
  | (with_reducible refine s_c ?_)
  | (with_reducible refine s_tup ?_)
  | (with_reducible refine s_lst ?_)
  | (with_reducible refine s_nil ?_)
  | (with_reducible refine s_cons ?_)
  | (with_reducible refine s_call ?_)
  | (with_reducible refine s_cb ?_)
  | (with_reducible refine s_test ?_)
  | (with_reducible refine s_tB ?_)
  | (with_reducible refine s_b ?_)
  | (with_reducible refine s_not ?_)
  | (with_reducible refine s_and ?_)
  | (with_reducible refine s_or ?_)
  | (with_reducible refine s_un ?_)
  | (with_reducible refine s_U ?_)
  | (with_reducible refine s_ifE ?_)
  | (with_reducible refine s_andV0 ?_)
  | (with_reducible refine s_orV0 ?_)
  | (with_reducible refine s_notV ?_)
  | (with_reducible refine s_I0 ?_)
  | (with_reducible refine s_chain ?_)
  | (with_reducible refine s_par3 ?_)
  | (with_reducible refine s_par ?_)
  | (with_reducible refine s_v2 ?_)
  | (with_reducible refine s_v3 ?_)
  | (with_reducible refine s_eqI ?_)
  | (with_reducible refine s_neI ?_)
  | (with_reducible refine s_eqS ?_)
  | (with_reducible refine s_neS ?_)
  | (with_reducible refine s_max2 ?_)
  | (with_reducible refine s_min2 ?_)
  | (with_reducible refine s_int1 ?_)
  | (with_reducible refine s_int1b ?_)
  | ((with_reducible refine' s_var ?h ?q); (case h => rfl))
  | (with_reducible refine s_for ?_)
  | (with_reducible refine s_iR1 ?_)
  | (with_reducible refine s_iR2 ?_)
  | (with_reducible refine s_iR3 ?_)
  | (with_reducible refine s_sl ?_)
  | (with_reducible refine s_part ?_)
  | (with_reducible refine s_nopart ?_)
  | (with_reducible refine s_iL ?_)
  | (with_reducible refine s_iT ?_)
  | (with_reducible refine s_iS ?_)
  | (with_reducible refine s_lc ?_)
  | (with_reducible refine s_yes ?_)
  | ((with_reducible refine' s_wipe ?h ?q); (case h => rfl))
  | (with_reducible refine s_callK0 ?_)
  | (with_reducible refine s_bits ?_)
  | (with_reducible refine s_i ?_)
  | (with_reducible refine s_bm ?_)
  | (with_reducible refine s_bm0 ?_)
  | (with_reducible refine s_m1 ?_)
  | (with_reducible refine s_callK ?_)
  | (with_reducible refine s_gsub ?_)
  | ((with_reducible refine' s_gtup ?h ?e ?q); (case h => walk_at "sq"); (case e => rfl))
  | (with_reducible refine s_gcons ?_)
  | (with_reducible refine s_gnil ?_)
  | ((with_reducible refine s_I ?c ?q); (case c => walk_at "cond"))
  | ((with_reducible refine' s_ixL ?h ?a ?q); (case h => walk_at "sq"); (case a => rfl))
  | ((with_reducible refine' s_ixT ?h ?a ?q); (case h => walk_at "sq"); (case a => rfl))
  | ((with_reducible refine' s_setL ?h ?a ?q); (case h => first | assumption | exact upd_same); (case a => rfl))
  | ((with_reducible refine' s_len ?h ?q); (case h => walk_at "sq"))
  | ((with_reducible refine' s_lenT ?h ?q); (case h => walk_at "sq"))
  | (with_reducible refine iteT ?_)
  | (with_reducible refine iteF ?_)
  | (with_reducible refine itNF ?_)
  | (with_reducible refine itNT ?_))
local macro_rules | `(tactic| walk_at "r") => `(tactic| (repeat walk_at "r1"))
local macro_rules | `(tactic| walk_at "r1") => `(tactic| (with_reducible refine s_fmtB ?_))
local macro_rules | `(tactic| walk_at "r1") => `(tactic| (with_reducible refine s_callS ?_))



def topS (i : Nat) : Stmt := PySem.Challenge.pw_narrowingbits_k61_one_bad_cell_a_group.main.body.getD i (.Pass ⟨0, 0, 0, 0⟩)
structure Zs (K : PySem.W.Frag) (mg : Str → Option Value) : Prop where
  z_bool : mg "bool" = none
  z_divmod : mg "divmod" = none
  z_enumerate : mg "enumerate" = none
  z_int : mg "int" = none
  z_isinstance : mg "isinstance" = none
  z_len : mg "len" = none
  z_list : mg "list" = none
  z_max : mg "max" = none
  z_min : mg "min" = none
  z_range : mg "range" = none
  z_sum : mg "sum" = none
  z_zip : mg "zip" = none
  e_CELL_SIZE : ∃ t, mg "CELL_SIZE" = some (.int (56) t)
  e_CHECK_SIZE : ∃ t, mg "CHECK_SIZE" = some (.int (8) t)
  e_HIGHEST : ∃ t, mg "HIGHEST" = some (.int (128) t)
  e_LOAD_SIZE : ∃ t, mg "LOAD_SIZE" = some (.int (48) t)
  e_MOST_BITS : ∃ t, mg "MOST_BITS" = some (.int (1000000) t)
  e_MOST_COUNT : ∃ t, mg "MOST_COUNT" = some (.int (2199023255550) t)
  e_MOST_GROUP : ∃ t, mg "MOST_GROUP" = some (.int (8) t)
  e_MOST_ZEROS : ∃ t, mg "MOST_ZEROS" = some (.int (40) t)
  e_STATES : ∃ t, mg "STATES" = some (.int (256) t)
  e_TURN : ∃ t, mg "TURN" = some (.int (7) t)
  x_BadBits : ExF K mg "BadBits"
  x_BadCells : ExF K mg "BadCells"
  x_Great : ExF K mg "Great"
  x_Outside : ExF K mg "Outside"
  s_BadBits_BadBits : PySem.W.subIn K (.ref (exA mg "BadBits")) (.ref (exA mg "BadBits")) = some true
  k_BadBits_BadBits : PySem.W.kitOne K (.ref (exA mg "BadBits")) (.ref (exA mg "BadBits")) = some true
  s_BadBits_BadCells : PySem.W.subIn K (.ref (exA mg "BadBits")) (.ref (exA mg "BadCells")) = some false
  k_BadBits_BadCells : PySem.W.kitOne K (.ref (exA mg "BadBits")) (.ref (exA mg "BadCells")) = some false
  s_BadBits_Great : PySem.W.subIn K (.ref (exA mg "BadBits")) (.ref (exA mg "Great")) = some false
  k_BadBits_Great : PySem.W.kitOne K (.ref (exA mg "BadBits")) (.ref (exA mg "Great")) = some false
  s_BadBits_Outside : PySem.W.subIn K (.ref (exA mg "BadBits")) (.ref (exA mg "Outside")) = some false
  k_BadBits_Outside : PySem.W.kitOne K (.ref (exA mg "BadBits")) (.ref (exA mg "Outside")) = some false
  s_BadCells_BadBits : PySem.W.subIn K (.ref (exA mg "BadCells")) (.ref (exA mg "BadBits")) = some false
  k_BadCells_BadBits : PySem.W.kitOne K (.ref (exA mg "BadCells")) (.ref (exA mg "BadBits")) = some false
  s_BadCells_BadCells : PySem.W.subIn K (.ref (exA mg "BadCells")) (.ref (exA mg "BadCells")) = some true
  k_BadCells_BadCells : PySem.W.kitOne K (.ref (exA mg "BadCells")) (.ref (exA mg "BadCells")) = some true
  s_BadCells_Great : PySem.W.subIn K (.ref (exA mg "BadCells")) (.ref (exA mg "Great")) = some false
  k_BadCells_Great : PySem.W.kitOne K (.ref (exA mg "BadCells")) (.ref (exA mg "Great")) = some false
  s_BadCells_Outside : PySem.W.subIn K (.ref (exA mg "BadCells")) (.ref (exA mg "Outside")) = some false
  k_BadCells_Outside : PySem.W.kitOne K (.ref (exA mg "BadCells")) (.ref (exA mg "Outside")) = some false
  s_Great_BadBits : PySem.W.subIn K (.ref (exA mg "Great")) (.ref (exA mg "BadBits")) = some false
  k_Great_BadBits : PySem.W.kitOne K (.ref (exA mg "Great")) (.ref (exA mg "BadBits")) = some false
  s_Great_BadCells : PySem.W.subIn K (.ref (exA mg "Great")) (.ref (exA mg "BadCells")) = some false
  k_Great_BadCells : PySem.W.kitOne K (.ref (exA mg "Great")) (.ref (exA mg "BadCells")) = some false
  s_Great_Great : PySem.W.subIn K (.ref (exA mg "Great")) (.ref (exA mg "Great")) = some true
  k_Great_Great : PySem.W.kitOne K (.ref (exA mg "Great")) (.ref (exA mg "Great")) = some true
  s_Great_Outside : PySem.W.subIn K (.ref (exA mg "Great")) (.ref (exA mg "Outside")) = some false
  k_Great_Outside : PySem.W.kitOne K (.ref (exA mg "Great")) (.ref (exA mg "Outside")) = some false
  s_Outside_BadBits : PySem.W.subIn K (.ref (exA mg "Outside")) (.ref (exA mg "BadBits")) = some false
  k_Outside_BadBits : PySem.W.kitOne K (.ref (exA mg "Outside")) (.ref (exA mg "BadBits")) = some false
  s_Outside_BadCells : PySem.W.subIn K (.ref (exA mg "Outside")) (.ref (exA mg "BadCells")) = some false
  k_Outside_BadCells : PySem.W.kitOne K (.ref (exA mg "Outside")) (.ref (exA mg "BadCells")) = some false
  s_Outside_Great : PySem.W.subIn K (.ref (exA mg "Outside")) (.ref (exA mg "Great")) = some false
  k_Outside_Great : PySem.W.kitOne K (.ref (exA mg "Outside")) (.ref (exA mg "Great")) = some false
  s_Outside_Outside : PySem.W.subIn K (.ref (exA mg "Outside")) (.ref (exA mg "Outside")) = some true
  k_Outside_Outside : PySem.W.kitOne K (.ref (exA mg "Outside")) (.ref (exA mg "Outside")) = some true
theorem Zs.c_CELL_SIZE {K : PySem.W.Frag} {mg : Str → Option Value} (Z : Zs K mg) : mg "CELL_SIZE" = some (.int (56) (Classical.choose Z.e_CELL_SIZE)) := Classical.choose_spec Z.e_CELL_SIZE
theorem Zs.c_CHECK_SIZE {K : PySem.W.Frag} {mg : Str → Option Value} (Z : Zs K mg) : mg "CHECK_SIZE" = some (.int (8) (Classical.choose Z.e_CHECK_SIZE)) := Classical.choose_spec Z.e_CHECK_SIZE
theorem Zs.c_HIGHEST {K : PySem.W.Frag} {mg : Str → Option Value} (Z : Zs K mg) : mg "HIGHEST" = some (.int (128) (Classical.choose Z.e_HIGHEST)) := Classical.choose_spec Z.e_HIGHEST
theorem Zs.c_LOAD_SIZE {K : PySem.W.Frag} {mg : Str → Option Value} (Z : Zs K mg) : mg "LOAD_SIZE" = some (.int (48) (Classical.choose Z.e_LOAD_SIZE)) := Classical.choose_spec Z.e_LOAD_SIZE
theorem Zs.c_MOST_BITS {K : PySem.W.Frag} {mg : Str → Option Value} (Z : Zs K mg) : mg "MOST_BITS" = some (.int (1000000) (Classical.choose Z.e_MOST_BITS)) := Classical.choose_spec Z.e_MOST_BITS
theorem Zs.c_MOST_COUNT {K : PySem.W.Frag} {mg : Str → Option Value} (Z : Zs K mg) : mg "MOST_COUNT" = some (.int (2199023255550) (Classical.choose Z.e_MOST_COUNT)) := Classical.choose_spec Z.e_MOST_COUNT
theorem Zs.c_MOST_GROUP {K : PySem.W.Frag} {mg : Str → Option Value} (Z : Zs K mg) : mg "MOST_GROUP" = some (.int (8) (Classical.choose Z.e_MOST_GROUP)) := Classical.choose_spec Z.e_MOST_GROUP
theorem Zs.c_MOST_ZEROS {K : PySem.W.Frag} {mg : Str → Option Value} (Z : Zs K mg) : mg "MOST_ZEROS" = some (.int (40) (Classical.choose Z.e_MOST_ZEROS)) := Classical.choose_spec Z.e_MOST_ZEROS
theorem Zs.c_STATES {K : PySem.W.Frag} {mg : Str → Option Value} (Z : Zs K mg) : mg "STATES" = some (.int (256) (Classical.choose Z.e_STATES)) := Classical.choose_spec Z.e_STATES
theorem Zs.c_TURN {K : PySem.W.Frag} {mg : Str → Option Value} (Z : Zs K mg) : mg "TURN" = some (.int (7) (Classical.choose Z.e_TURN)) := Classical.choose_spec Z.e_TURN
/-! ### the promises -/
def gK2 {α : Type} (us ws : List α) : List α := match us, ws with
  | [], [a, b] => [b, a]
  | _, _ => []
/-- two keywords, the second one first -/
theorem _root_.L2.Fun.kbinds2 {K : PySem.W.Frag} {x qual : Str} {st : Stmt} {f : Addr} {fd : FuncData} {ps : List Str} (F : Fun K x qual st f fd) (ks : List Str) (hn : ps.length = 2)
    (h : ∀ (kV doc pm : Value) (an : Option Addr) (cdv ct : Value) (a b : Value), bindArgs (PySem.W.fnOf x qual (defArgs st) (defBody st) (defScope st) .none kV doc pm an cdv ct) ⟨[], ks.zip [a, b]⟩ = pure (ps.zip [b, a])) :
    KBinds K fd ps ks gK2 gK2 := by
  obtain ⟨oc, od, kV, doc, pm, an, cdv, ct, osl, rfl, lk, hcd⟩ := F.ex
  refine ⟨fun s us ws _ hl => ?_, fun {vs us zs ws} r rz => ?_⟩
  · match us, ws, hl with
    | [], [a, b], _ => exact .of_eq (h kV doc pm an cdv ct a b)
    | [], [], hl => exact absurd (show 0 = ps.length from hl) (by omega)
    | [], [_], hl => exact absurd (show 0 = ps.length from hl) (by omega)
    | [], _ :: _ :: _ :: _, hl => exact absurd (show 0 = ps.length from hl) (by omega)
    | _ :: _, _, hl => exact absurd (show 0 = ps.length from hl) (by omega)
  · cases r with
    | cons _ _ => exact .nil
    | nil =>
      cases rz with
      | nil => exact .nil
      | cons r1 rz =>
        cases rz with
        | nil => exact .nil
        | cons r2 rz =>
          cases rz with
          | nil => exact .cons r2 (.cons r1 .nil)
          | cons _ _ => exact .nil
def bitsV (w n : Nat) : List V := (fixL w n).map V.int
abbrev Bits (bs : List Int) : Prop := isBits bs
theorem c_sum {X : Cx} (K : PySem.W.Frag) (e : X.K = K) (hc : X.calm = true) : CallR X (.builtin "sum") (rSum K) := by subst e; exact cr_sum hc
theorem s_iZ {K : PySem.W.Frag} {σ : L2.St} {H : Hp} {ta : TA} {R : It → Hp → Prop} (h : ta σ H fun vs H1 => ∃ a b xs ys, vs = [.ref a, .ref b] ∧ SqL K H1 a xs ∧ SqL K H1 b ys ∧ R (Itz K a b) H1) : iZip K ta σ H R := h
theorem s_iE {K : PySem.W.Frag} {σ : L2.St} {H : Hp} {ta : TA} {R : It → Hp → Prop} (h : ta σ H fun vs H1 => ∃ a xs, vs = [.ref a] ∧ SqL K H1 a xs ∧ R (Ite K a) H1) : iEnum K ta σ H R := h
/-- lists that stand -/
inductive LV (H : Hp) : List V → List (List V) → Prop
  | nil : LV H [] []
  | cons {a : Addr} {l : List V} {vs : List V} {ls : List (List V)} : H a = some (.lst l) → LV H vs ls → LV H (.ref a :: vs) (l :: ls)
abbrev RL (H : Hp) (vs : List V) (ls : List (List Int)) : Prop := LV H vs (ls.map (·.map V.int))
theorem LV.mono {H H' : Hp} (s : Same H H') : ∀ {vs : List V} {ls : List (List V)}, LV H vs ls → LV H' vs ls
  | _, _, .nil => .nil
  | _, _, .cons h r => .cons (s _ _ h) (r.mono s)
theorem LV.len {H : Hp} : ∀ {vs : List V} {ls : List (List V)}, LV H vs ls → vs.length = ls.length
  | _, _, .nil => rfl
  | _, _, .cons _ r => by simp [r.len]
theorem LV.app {H : Hp} {ws : List V} {ms : List (List V)} : ∀ {vs : List V} {ls : List (List V)}, LV H vs ls → LV H ws ms → LV H (vs ++ ws) (ls ++ ms)
  | _, _, .nil, h2 => h2
  | _, _, .cons h r, h2 => .cons h (r.app h2)
theorem LV.snoc {H : Hp} {vs : List V} {ls : List (List V)} {a : Addr} {l : List V} (r : LV H vs ls) (h : H a = some (.lst l)) : LV H (vs ++ [.ref a]) (ls ++ [l]) := r.app (.cons h .nil)
theorem LV.take {H : Hp} : ∀ (n : Nat) {vs : List V} {ls : List (List V)}, LV H vs ls → LV H (vs.take n) (ls.take n)
  | 0, _, _, _ => by simp only [List.take_zero]; exact .nil
  | n + 1, _, _, .nil => .nil
  | n + 1, _, _, .cons h r => .cons h (r.take n)
theorem LV.drop {H : Hp} : ∀ (n : Nat) {vs : List V} {ls : List (List V)}, LV H vs ls → LV H (vs.drop n) (ls.drop n)
  | 0, _, _, r => r
  | n + 1, _, _, .nil => .nil
  | n + 1, _, _, .cons _ r => r.drop n
theorem LV.get {H : Hp} : ∀ {vs : List V} {ls : List (List V)} (i : Nat) {v : V}, LV H vs ls → vs[i]? = some v → ∃ a l, v = .ref a ∧ ls[i]? = some l ∧ H a = some (.lst l)
  | _, _, i, _, .nil, e => by simp at e
  | _, _, 0, _, .cons h _, e => ⟨_, _, (Option.some.inj e).symm, rfl, h⟩
  | _, _, i + 1, _, .cons _ r, e => r.get i e
theorem RL.get {H : Hp} {vs : List V} {ls : List (List Int)} (r : RL H vs ls) (i : Nat) {v : V} (e : vs[i]? = some v) : ∃ a l, v = .ref a ∧ ls[i]? = some l ∧ H a = some (.lst (l.map V.int)) := by
  obtain ⟨a, l, rfl, e2, h⟩ := LV.get i r e
  rw [List.getElem?_map] at e2
  cases z : ls[i]? with
  | none => rw [z] at e2; cases e2
  | some m => rw [z] at e2; cases e2; exact ⟨a, m, rfl, rfl, h⟩
theorem RL.len {H : Hp} {vs : List V} {ls : List (List Int)} (r : RL H vs ls) : vs.length = ls.length := by rw [LV.len r, List.length_map]
theorem RL.take {H : Hp} {vs : List V} {ls : List (List Int)} (n : Nat) (r : RL H vs ls) : RL H (vs.take n) (ls.take n) := by
  have := LV.take n r
  rwa [← List.map_take] at this
theorem RL.drop {H : Hp} {vs : List V} {ls : List (List Int)} (n : Nat) (r : RL H vs ls) : RL H (vs.drop n) (ls.drop n) := by
  have := LV.drop n r
  rwa [← List.map_drop] at this
theorem RL.snoc {H : Hp} {vs : List V} {ls : List (List Int)} {a : Addr} {l : List Int} (r : RL H vs ls) (h : H a = some (.lst (l.map V.int))) : RL H (vs ++ [.ref a]) (ls ++ [l]) := by
  have := LV.snoc r h
  rwa [show (ls.map (·.map V.int)) ++ [l.map V.int] = (ls ++ [l]).map (·.map V.int) by simp] at this
theorem RL.app {H : Hp} {vs ws : List V} {ls ms : List (List Int)} (r : RL H vs ls) (r2 : RL H ws ms) : RL H (vs ++ ws) (ls ++ ms) := by
  have := LV.app r r2
  rwa [← List.map_append] at this
/-- a heap without a cell -/
def delH (H : Hp) (f : Addr) : Hp := fun b => if b = f then none else H b
theorem delH_same (H : Hp) (f : Addr) : Same (delH H f) H := fun b o h => by
  unfold delH at h
  split at h
  · cases h
  · exact h
theorem delH_none (H : Hp) (f : Addr) : delH H f f = none := by simp [delH]
theorem delH_at {H : Hp} {f b : Addr} {o : HO} (h : H b = some o) (n : b ≠ f) : delH H f b = some o := by simp [delH, n, h]
theorem Same.del {F H : Hp} {f : Addr} (s : Same F H) (n : F f = none) : Same F (delH H f) := fun b o h => delH_at (s b o h) (fun e => by rw [e, n] at h; cases h)
def sp_is_bit (_ : PySem.W.Frag) (_ : Str → Option Value) : Sp := SpN 1 fun vs H Q _ => ∃ b : Int, vs = [.int b] ∧ Q (.bl (goodI b)) H
def sp_check_bits (K : PySem.W.Frag) (mg : Str → Option Value) : Sp := SpN 1 fun vs H Q E => ∃ (a : Addr) (ns : List Int), vs = [.ref a] ∧ SqL K H a (ns.map V.int) ∧
  ((ns.all goodI = true ∧ Q .non H) ∨ (ns.all goodI = false ∧ E (.ref (exA mg "BadBits")) none H))
def sp_fixed (_ : PySem.W.Frag) (_ : Str → Option Value) : Sp := SpN 2 fun vs H Q _ => ∃ (n w : Int), vs = [.int n, .int w] ∧ 0 ≤ n ∧ 0 ≤ w ∧ w ≤ 10000 ∧ n.toNat < 2 ^ w.toNat ∧
  ∀ p H', Same H H' → H p = none → H' p = some (.lst (bitsV w.toNat n.toNat)) → Q (.ref p) H'
def sp_number_of (K : PySem.W.Frag) (_ : Str → Option Value) : Sp := SpN 1 fun vs H Q _ => ∃ (a : Addr) (bs : List Int), vs = [.ref a] ∧ SqL K H a (bs.map V.int) ∧ Q (.int (numL bs)) H
def sp_count_bits (_ : PySem.W.Frag) (mg : Str → Option Value) : Sp := SpN 1 fun vs H Q E => ∃ (n : Int), vs = [.int n] ∧
  ((0 ≤ n ∧ n ≤ 2199023255550 ∧ ∀ p H', Same H H' → H p = none → H' p = some (.lst ((countL n.toNat).map V.int)) → Q (.ref p) H') ∨
   (¬ (0 ≤ n ∧ n ≤ 2199023255550) ∧ E (.ref (exA mg "Great")) none H))
def sp_count_at (K : PySem.W.Frag) (_ : Str → Option Value) : Sp := SpN 2 fun vs H Q _ => ∃ (a : Addr) (bs : List Int) (n : Nat), vs = [.ref a, .int n] ∧ SqL K H a (bs.map V.int) ∧ n ≤ bs.length ∧ bs.length ≤ 10000 ∧
  ∀ p H', Same H H' → H p = none → H' p = some (.tup (cntR bs n)) → Q (.ref p) H'
def sp_check_of (K : PySem.W.Frag) (_ : Str → Option Value) : Sp := SpN 1 fun vs H Q _ => ∃ (a : Addr) (bs : List Int), vs = [.ref a] ∧ SqL K H a (bs.map V.int) ∧ Bits bs ∧
  ∀ p H', Same H H' → H p = none → H' p = some (.lst ((fixL 8 (chk bs)).map V.int)) → Q (.ref p) H'
def sp_want_group (_ : PySem.W.Frag) (mg : Str → Option Value) : Sp := SpN 1 fun vs H Q E => ∃ (g : Int), vs = [.int g] ∧ ((1 ≤ g ∧ g ≤ 8 ∧ Q .non H) ∨ (¬ (1 ≤ g ∧ g ≤ 8) ∧ E (.ref (exA mg "Outside")) none H))
def sp_cut_up (K : PySem.W.Frag) (_ : Str → Option Value) : Sp := SpN 2 fun vs H Q _ => ∃ (F : Hp) (a : Addr) (xs : List V) (k : Nat), vs = [.ref a, .int k] ∧ Same F H ∧ SqL K F a xs ∧ 0 < k ∧ k < 100000 ∧ xs.length < 90000 ∧
  ∀ p F' H' acc, Stp S0 F H F' H' → F' p = some (.lst acc) → LV F' acc (chunk k xs) → Q (.ref p) H'
abbrev Lds (ls : List (List Int)) : Prop := ∀ l ∈ ls, l.length = 48 ∧ isBits l
def sp_sum_of (K : PySem.W.Frag) (_ : Str → Option Value) : Sp := SpN 1 fun vs H Q _ => ∃ (a : Addr) (us : List V) (ls : List (List Int)), vs = [.ref a] ∧ SqL K H a us ∧ RL H us ls ∧ ls ≠ [] ∧ ls.length ≤ 1000 ∧ Lds ls ∧
  ∀ p H', Same H H' → H p = none → H' p = some (.lst ((sumC ls).map V.int)) → Q (.ref p) H'
def sp_cell_of (_ : PySem.W.Frag) (_ : Str → Option Value) : Sp := SpN 1 fun vs H Q _ => ∃ (a : Addr) (l : List Int), vs = [.ref a] ∧ H a = some (.lst (l.map V.int)) ∧ isBits l ∧ l.length ≤ 1000 ∧
  ∀ p H', Same H H' → H p = none → H' p = some (.lst ((cellC l).map V.int)) → Q (.ref p) H'
def sp_protect (_ : PySem.W.Frag) (mg : Str → Option Value) : Sp := SpN 2 fun vs H Q E => ∃ (a : Addr) (ns : List Int) (g : Int), vs = [.ref a, .int g] ∧ H a = some (.lst (ns.map V.int)) ∧ ns.length ≤ 1000 ∧
  ((ns.all goodI = false ∧ E (.ref (exA mg "BadBits")) none H) ∨ (ns.all goodI = true ∧ ¬ (1 ≤ g ∧ g ≤ 8) ∧ E (.ref (exA mg "Outside")) none H) ∨
   (ns.all goodI = true ∧ 1 ≤ g ∧ g ≤ 8 ∧ ∀ p H', Same H H' → H p = none → H' p = some (.lst ((protC g.toNat ns).map V.int)) → Q (.ref p) H'))
def sp_is_good (K : PySem.W.Frag) (_ : Str → Option Value) : Sp := SpN 1 fun vs H Q _ => ∃ (a : Addr) (c : List Int), vs = [.ref a] ∧ SqL K H a (c.map V.int) ∧ Bits c ∧ ∀ H', Same H H' → Q (.bl (goodL c)) H'
theorem cutV_m1 (xs : List V) : cutV xs none (some (-1)) = xs.dropLast := by
  unfold cutV
  show (xs.drop 0).take (HT.sIx xs.length xs.length (some (-1)) - HT.sIx xs.length 0 none) = xs.dropLast
  rw [HT.sIx_none, List.drop_zero, List.dropLast_eq_take]
  congr 1
  show (if (-1 : Int) < 0 then ((-1 : Int) + (xs.length : Int)).toNat else min (-1 : Int).toNat xs.length) - 0 = xs.length - 1
  rw [if_pos (by decide)]
  omega
/-- lists of lists that stand, or None -/
def oV : Option Int → V
  | none => .non
  | some i => .int i
inductive LO (H : Hp) : List V → List (Option (List Int)) → Prop
  | nil : LO H [] []
  | non {vs : List V} {ls : List (Option (List Int))} : LO H vs ls → LO H (.non :: vs) (none :: ls)
  | cons {a : Addr} {l : List Int} {vs : List V} {ls : List (Option (List Int))} : H a = some (.lst (l.map V.int)) → LO H vs ls → LO H (.ref a :: vs) (some l :: ls)
theorem LO.mono {H H' : Hp} (s : Same H H') : ∀ {vs : List V} {ls : List (Option (List Int))}, LO H vs ls → LO H' vs ls
  | _, _, .nil => .nil
  | _, _, .non r => .non (r.mono s)
  | _, _, .cons h r => .cons (s _ _ h) (r.mono s)
theorem LO.len {H : Hp} : ∀ {vs : List V} {ls : List (Option (List Int))}, LO H vs ls → vs.length = ls.length
  | _, _, .nil => rfl
  | _, _, .non r => by simp [r.len]
  | _, _, .cons _ r => by simp [r.len]
theorem LO.app {H : Hp} {ws : List V} {ms : List (Option (List Int))} : ∀ {vs : List V} {ls : List (Option (List Int))}, LO H vs ls → LO H ws ms → LO H (vs ++ ws) (ls ++ ms)
  | _, _, .nil, h2 => h2
  | _, _, .non r, h2 => .non (r.app h2)
  | _, _, .cons h r, h2 => .cons h (r.app h2)
theorem LO.take {H : Hp} : ∀ (n : Nat) {vs : List V} {ls : List (Option (List Int))}, LO H vs ls → LO H (vs.take n) (ls.take n)
  | 0, _, _, _ => by simp only [List.take_zero]; exact .nil
  | n + 1, _, _, .nil => .nil
  | n + 1, _, _, .non r => .non (r.take n)
  | n + 1, _, _, .cons h r => .cons h (r.take n)
theorem LO.get {H : Hp} : ∀ {vs : List V} {ls : List (Option (List Int))} (i : Nat) {v : V}, LO H vs ls → vs[i]? = some v → (v = .non ∧ ls[i]? = some none) ∨ ∃ a l, v = .ref a ∧ ls[i]? = some (some l) ∧ H a = some (.lst (l.map V.int))
  | _, _, i, _, .nil, e => by simp at e
  | _, _, 0, _, .non _, e => .inl ⟨(Option.some.inj e).symm, rfl⟩
  | _, _, i + 1, _, .non r, e => r.get i e
  | _, _, 0, _, .cons h _, e => .inr ⟨_, _, (Option.some.inj e).symm, rfl, h⟩
  | _, _, i + 1, _, .cons _ r, e => r.get i e
theorem LO.setN {H : Hp} : ∀ {vs : List V} {ls : List (Option (List Int))} (i : Nat), LO H vs ls → LO H (vs.set i .non) (ls.set i none)
  | _, _, _, .nil => .nil
  | _, _, 0, .non r => .non r
  | _, _, i + 1, .non r => .non (r.setN i)
  | _, _, 0, .cons _ r => .non r
  | _, _, i + 1, .cons h r => .cons h (r.setN i)
theorem LO.setS {H : Hp} {a : Addr} {l : List Int} (ha : H a = some (.lst (l.map V.int))) : ∀ {vs : List V} {ls : List (Option (List Int))} (i : Nat), LO H vs ls → LO H (vs.set i (.ref a)) (ls.set i (some l))
  | _, _, _, .nil => .nil
  | _, _, 0, .non r => .cons ha r
  | _, _, i + 1, .non r => .non (r.setS ha i)
  | _, _, 0, .cons _ r => .cons ha r
  | _, _, i + 1, .cons h r => .cons h (r.setS ha i)
theorem LO.ofRL {H : Hp} : ∀ {vs : List V} {ls : List (List Int)}, RL H vs ls → LO H vs (ls.map some)
  | [], [], _ => .nil
  | [], l :: ls, r => by cases r
  | v :: vs, [], r => by cases r
  | v :: vs, l :: ls, r => by
    cases r with
    | cons h r => exact .cons h (LO.ofRL r)
theorem LO.toRL {H : Hp} : ∀ {vs : List V} {ls : List (List Int)}, LO H vs (ls.map some) → RL H vs ls
  | [], [], _ => .nil
  | [], l :: ls, r => by cases r
  | v :: vs, [], r => by cases r
  | v :: vs, l :: ls, r => by
    cases r with
    | cons h r => exact .cons h (LO.toRL r)
theorem LV.erase {H : Hp} : ∀ {vs : List V} {ls : List (List V)} (i : Nat), LV H vs ls → LV H (vs.eraseIdx i) (ls.eraseIdx i)
  | _, _, _, .nil => .nil
  | _, _, 0, .cons _ r => r
  | _, _, i + 1, .cons h r => .cons h (LV.erase i r)
theorem RL.erase {H : Hp} {vs : List V} {ls : List (List Int)} (i : Nat) (r : RL H vs ls) : RL H (vs.eraseIdx i) (ls.eraseIdx i) := by
  have := LV.erase i r
  rwa [← map_erase] at this
theorem inV_os (x : Int) (os : List (Option Int)) : inV (.int x) (os.map oV) = decide (some x ∈ os) := by
  unfold inV
  induction os with
  | nil => simp
  | cons n ns ih =>
    rw [List.map_cons, List.any_cons, ih]
    cases n with
    | none =>
      have : eqV (oV none) (.int x) = false := rfl
      rw [this]; simp
    | some i =>
      show (eqV (.int i) (.int x) || _) = _
      rw [eqV_int]
      by_cases h : i = x
      · subst h; simp
      · have h3 : ¬ x = i := fun z => h z.symm
        by_cases h2 : some x ∈ ns
        · simp [h2]
        · simp [h, h2, h3]
theorem flat_os (os : List (Option Int)) : (os.map oV).all flatV = true := by
  rw [List.all_eq_true]; intro v hv
  obtain ⟨n, _, rfl⟩ := List.mem_map.mp hv
  cases n <;> rfl
theorem flatW_os (os : List (Option Int)) : (os.map oV).all flatW = true := by
  rw [List.all_eq_true]; intro v hv
  obtain ⟨n, _, rfl⟩ := List.mem_map.mp hv
  cases n <;> rfl
/-- a number in a list of numbers and None -/
theorem s_inO {K : PySem.W.Frag} {H : Hp} {Q : VK} {a : Addr} {os : List (Option Int)} {x : Int} (h : SqL K H a (os.map oV)) (q : Q (.bl (decide (some x ∈ os))) H) : rIn K false (.int x) (.ref a) H Q :=
  ⟨a, _, rfl, .inl h, rfl, flat_os os, by rw [if_neg (by decide), inV_os]; exact q⟩
theorem oV_some (bs : List Int) : (bs.map some).map oV = bs.map V.int := by simp [oV, Function.comp_def]
abbrev Cls (cs : List (List Int)) : Prop := ∀ c ∈ cs, c.length = 56 ∧ isBits c
def sp_cells_of (K : PySem.W.Frag) (mg : Str → Option Value) : Sp := SpN 2 fun vs H Q E => ∃ (F : Hp) (a : Addr) (ns : List Int) (g : Int), vs = [.ref a, .int g] ∧ Same F H ∧ SqL K F a (ns.map V.int) ∧ ns.length < 80000 ∧
  ((ns.all goodI = false ∧ E (.ref (exA mg "BadBits")) none H) ∨ (ns.all goodI = true ∧ ¬ (1 ≤ g ∧ g ≤ 8) ∧ E (.ref (exA mg "Outside")) none H) ∨
   (ns.all goodI = true ∧ (1 ≤ g ∧ g ≤ 8) ∧ ¬ sizeOk g.toNat ns.length ∧ ∀ H', Same H H' → E (.ref (exA mg "BadCells")) none H') ∨
   (ns.all goodI = true ∧ (1 ≤ g ∧ g ≤ 8) ∧ sizeOk g.toNat ns.length ∧ ∀ p F' H' acc, Stp S0 F H F' H' → F' p = some (.lst acc) → RL F' acc (chunk 56 ns) → Q (.ref p) H'))
def sp_good (K : PySem.W.Frag) (mg : Str → Option Value) : Sp := SpN 2 fun vs H Q E => ∃ (a : Addr) (ns : List Int) (g : Int), vs = [.ref a, .int g] ∧ SqL K H a (ns.map V.int) ∧ ns.length < 80000 ∧
  ((ns.all goodI = false ∧ E (.ref (exA mg "BadBits")) none H) ∨ (ns.all goodI = true ∧ ¬ (1 ≤ g ∧ g ≤ 8) ∧ E (.ref (exA mg "Outside")) none H) ∨
   (ns.all goodI = true ∧ (1 ≤ g ∧ g ≤ 8) ∧ ¬ sizeOk g.toNat ns.length ∧ ∀ H', Same H H' → E (.ref (exA mg "BadCells")) none H') ∨
   (ns.all goodI = true ∧ (1 ≤ g ∧ g ≤ 8) ∧ sizeOk g.toNat ns.length ∧ ∀ p H', Same H H' → H p = none → H' p = some (.lst (((chunk 56 ns).map goodL).map V.bl)) → Q (.ref p) H'))
def sp_opened_group (K : PySem.W.Frag) (_ : Str → Option Value) : Sp := SpN 1 fun vs H Q _ => ∃ (F : Hp) (a : Addr) (us : List V) (cs : List (List Int)), vs = [.ref a] ∧ Same F H ∧ SqL K F a us ∧ RL F us cs ∧ 2 ≤ cs.length ∧ cs.length ≤ 9 ∧ Cls cs ∧
  ∀ p F' H' acc, Stp S0 F H F' H' → F' p = some (.lst acc) → LO F' acc (openG cs) → Q (.ref p) H'
def sp_count_told (K : PySem.W.Frag) (mg : Str → Option Value) : Sp := SpN 1 fun vs H Q E => ∃ (a : Addr) (l : List Int), vs = [.ref a] ∧ SqL K H a (l.map V.int) ∧ l.length ≤ 1000 ∧ isBits l ∧
  ((cntT l = none ∧ ∀ H', Same H H' → E (.ref (exA mg "BadCells")) none H') ∨ ∃ n p : Nat, cntT l = some (n, p) ∧ ∀ q H', Same H H' → H' q = some (.tup [.int n, .int p]) → Q (.ref q) H')
def OpQ (mg : Str → Option Value) (Q : VK) (E : XK) (H H' : Hp) : OpR → Prop
  | .bits => E (.ref (exA mg "BadBits")) none H'
  | .outside => E (.ref (exA mg "Outside")) none H'
  | .cells => E (.ref (exA mg "BadCells")) none H'
  | .non => Q .non H'
  | .told bs => ∀ p, H p = none → H' p = some (.lst (bs.map oV)) → Q (.ref p) H'
def sp_open_cells (K : PySem.W.Frag) (mg : Str → Option Value) : Sp := SpN 2 fun vs H Q E => ∃ (a : Addr) (ns : List Int) (g : Int), vs = [.ref a, .int g] ∧ SqL K H a (ns.map V.int) ∧ ns.length < 80000 ∧
  ∀ H', Same H H' → OpQ mg Q E H H' (openR g ns)
theorem ixN_of {n j : Nat} (h : j < n) : ixN n (j : Int) = some j := by
  unfold ixN
  rw [if_pos (by omega), if_pos (by omega), Int.toNat_natCast]
def sp_law_pool (K : PySem.W.Frag) (_ : Str → Option Value) : Sp := SpN 2 fun vs H Q _ => ∃ (s : Addr) (ns : List Int) (k : Int), vs = [.ref s, .int k] ∧ SqL K H s (ns.map V.int) ∧ 0 ≤ k ∧ k < 100 ∧
  ∀ p H', Src H H' p → Q (.ref p) H'
def sp_law_take (_ : PySem.W.Frag) (_ : Str → Option Value) : Sp := SpN 2 fun vs H Q _ => ∃ (F : Hp) (p : Addr) (t : Int), vs = [.ref p, .int t] ∧ Src F H p ∧ 0 < t ∧ t < 1073741824 ∧
  ∀ r H', Src F H' p → Stp (S1 p) F H F H' → 0 ≤ r → r < t → Q (.int r) H'
def sp_law_one (K : PySem.W.Frag) (_ : Str → Option Value) : Sp := SpN 2 fun vs H Q _ => ∃ (F : Hp) (p q : Addr) (ns : List Int), vs = [.ref p, .ref q] ∧ Src F H p ∧ SqL K F q (ns.map V.int) ∧ 0 < ns.length ∧ ns.length < 1000 ∧
  ∀ r H', Src F H' p → Stp (S1 p) F H F H' → r ∈ ns → Q (.int r) H'
def sp_law_count (_ : PySem.W.Frag) (_ : Str → Option Value) : Sp := SpN 1 fun vs H Q _ => ∃ (n : Nat), vs = [.int n] ∧ n ≤ 1000000 ∧
  ∀ p H', Same H H' → H p = none → H' p = some (.lst ((countL n).map V.int)) → Q (.ref p) H'
def sp_law_check (K : PySem.W.Frag) (_ : Str → Option Value) : Sp := SpN 1 fun vs H Q _ => ∃ (a : Addr) (l : List Int), vs = [.ref a] ∧ SqL K H a (l.map V.int) ∧ l.length = 48 ∧ isBits l ∧
  ∀ p H', Same H H' → H p = none → H' p = some (.lst ((fixL 8 (chk l)).map V.int)) → Q (.ref p) H'
def sp_law_sum (K : PySem.W.Frag) (_ : Str → Option Value) : Sp := SpN 1 fun vs H Q _ => ∃ (a : Addr) (us : List V) (ls : List (List Int)), vs = [.ref a] ∧ SqL K H a us ∧ RL H us ls ∧ ls.length ≤ 1000 ∧ Lds ls ∧
  ∀ p H', Same H H' → H p = none → H' p = some (.lst ((sumC ls).map V.int)) → Q (.ref p) H'
def sp_law_cells (_ : PySem.W.Frag) (_ : Str → Option Value) : Sp := SpN 2 fun vs H Q _ => ∃ (F : Hp) (a : Addr) (us : List V) (ls : List (List Int)) (g : Nat), vs = [.ref a, .int g] ∧ Same F H ∧ F a = some (.lst us) ∧ RL F us ls ∧ ls.length ≤ 1000 ∧ Lds ls ∧ 1 ≤ g ∧ g ≤ 8 ∧
  ∀ p F' H' acc, Stp S0 F H F' H' → F' p = some (.lst acc) → RL F' acc (cellsC g ls) → Q (.ref p) H'
def sp_law_loads (_ : PySem.W.Frag) (_ : Str → Option Value) : Sp := SpN 1 fun vs H Q _ => ∃ (F : Hp) (a : Addr) (t : List Int), vs = [.ref a] ∧ Same F H ∧ F a = some (.lst (t.map V.int)) ∧ t.length ≤ 2000 ∧
  ∀ p F' H' acc, Stp S0 F H F' H' → F' p = some (.lst acc) → RL F' acc (chunk 48 (padC t)) → Q (.ref p) H'
def sp_law_joined (K : PySem.W.Frag) (_ : Str → Option Value) : Sp := SpN 1 fun vs H Q _ => ∃ (a : Addr) (us : List V) (ls : List (List Int)), vs = [.ref a] ∧ SqL K H a us ∧ RL H us ls ∧ ls.length ≤ 1000 ∧ (∀ l ∈ ls, l.length = 56) ∧
  ∀ p H', Same H H' → H p = none → H' p = some (.lst (ls.flatten.map V.int)) → Q (.ref p) H'
def sp_law_bits (_ : PySem.W.Frag) (_ : Str → Option Value) : Sp := SpN 1 fun vs H Q _ => ∃ (F : Hp) (p : Addr), vs = [.ref p] ∧ Src F H p ∧
  ∀ q bs F' H', Src F' H' p → Stp (S1 p) F H F' H' → F' q = some (.lst (bs.map V.int)) → isBits bs → bs.length ≤ 400 → Q (.ref q) H'
def sp_lawK (K : PySem.W.Frag) : Sp := SpN 1 fun vs H Q _ => ∃ (a : Addr) (ns : List Int), vs = [.ref a] ∧ SqL K H a (ns.map V.int) ∧ ns.length ≤ 63 ∧ ∀ H', Q (.bl true) H'
def sp_law (K : PySem.W.Frag) (_ : Str → Option Value) : Sp := sp_lawK K
theorem law_start {K : PySem.W.Frag} {H : Hp} {a : Addr} {ns : List Int} {E : XK} (hl : ns.length ≤ 63) (hS : SqL K H a (ns.map V.int)) : sp_lawK K [.ref a] H (fun v _ => v = .bl true) E := ⟨rfl, a, ns, rfl, hS, hl, fun _ => rfl⟩
theorem fixL_cons : ∀ (j n : Nat), fixL (j + 1) n = ((n / 2 ^ j % 2 : Nat) : Int) :: fixL j n
  | 0, n => by simp [fixL]
  | j + 1, n => by
    have e : fixL (j + 1 + 1) n = fixL (j + 1) (n / 2) ++ [((n % 2 : Nat) : Int)] := rfl
    rw [e, fixL_cons j (n / 2), Nat.div_div_eq_div_mul, ← Nat.pow_succ']
    rfl
theorem lt_blen {n j : Nat} : j < blen n ↔ 2 ^ j ≤ n := by
  unfold blen
  by_cases h : n = 0
  · subst h; simp
  · rw [if_neg h]
    have := Nat.le_log2 (n := n) (k := j) h
    omega
theorem shaped_flatL {vs : List V} (h : vs.all flatW = true) : SeqAt.shaped (.list (vs.map toD)) = true := by
  have h1 := depthAll_flat vs
  have e : (PyData.list (vs.map toD)).depth = PyData.depthAll (vs.map toD) + 1 := by rw [PyData.depth]
  exact Bool.and_eq_true_iff.mpr ⟨by rw [PyData.canLay0]; exact canLay_flat vs h, decide_eq_true (by rw [e]; omega)⟩
theorem s_neFl {K : PySem.W.Frag} {H : Hp} {Q : VK} {a b : Addr} {vs : List V} (h1 : SqL K H a vs) (h2 : SqL K H b vs) (f : vs.all flatW = true) (q : Q (.bl false) H) : rNeD K (.ref a) (.ref b) H Q :=
  ⟨_, _, .lst h1 (dp_flats f), .lst h2 (dp_flats f), shaped_flatL f, shaped_flatL f, by rw [SeqAt.eqv_refl _ (SeqAt.canLay_of_shaped (shaped_flatL f))]; exact q⟩
theorem at_nat' {xs : List V} {j : Nat} {v : V} (h : xs[j]? = some v) : atI xs (j : Int) = some v := atI_nat h
def sp_law_damaged (_ : PySem.W.Frag) (_ : Str → Option Value) : Sp := SpN 2 fun vs H Q _ => ∃ (F : Hp) (p a : Addr) (c : List Int), vs = [.ref p, .ref a] ∧ Src F H p ∧ F a = some (.lst (c.map V.int)) ∧ c.length = 56 ∧
  ∀ q L F' H', Src F' H' p → Stp (S1 p) F H F' H' → F' q = some (.lst ((flipL (ind L) 0 c).map V.int)) → SpotsOk L → Q (.ref q) H'
def sp_law_opened_right (_ : PySem.W.Frag) (_ : Str → Option Value) : Sp := SpN 4 fun vs H Q _ => ∃ (F : Hp) (p b a : Addr) (bs : List Int) (g : Nat) (us : List V), vs = [.ref p, .ref b, .int g, .ref a] ∧ Src F H p ∧ F b = some (.lst (bs.map V.int)) ∧ isBits bs ∧ bs.length ≤ 400 ∧ 1 ≤ g ∧ g ≤ 8 ∧ F a = some (.lst us) ∧ RL F us (cellsC g (loadsC bs)) ∧
  ∀ F' H', Src F' H' p → Stp (S1 p) F H F' H' → Q (.bl true) H'
def sp_law_lost_right := sp_law_opened_right
def litP (L : List Nat) : List V := (L.map fun (x : Nat) => (x : Int)).map V.int
theorem litP_mem {L : List Nat} {x : Nat} : ((x : Int) ∈ L.map fun (x : Nat) => (x : Int)) ↔ x ∈ L := by
  simp only [List.mem_map]
  exact ⟨fun ⟨j, h1, h2⟩ => by rw [show x = j by omega]; exact h1, fun h => ⟨x, h, rfl⟩⟩
theorem chunk_cover {k n : Nat} (hk : 0 < k) : n ≤ (n + k - 1) / k * k := by
  have h := Nat.div_add_mod (n + k - 1) k
  have h2 := Nat.mod_lt (n + k - 1) hk
  rw [Nat.mul_comm] at h
  omega
theorem chunk_under {k n i : Nat} (hk : 0 < k) (hi : i < (n + k - 1) / k) : i * k < n := by
  have h : (i + 1) * k ≤ n + k - 1 := Nat.le_trans (Nat.mul_le_mul_right k hi) (Nat.div_mul_le_self _ _)
  rw [Nat.succ_mul] at h
  omega
def mkS (g : Nat) (sp : Nat → Nat) (j : Nat) : Bool := decide (j % (g + 1) = sp (j / (g + 1)))
theorem mkS_at {g : Nat} {sp : Nat → Nat} {i t : Nat} (h : t < g + 1) : mkS g sp (i * (g + 1) + t) = decide (t = sp i) := by
  unfold mkS
  rw [show (i * (g + 1) + t) % (g + 1) = t by rw [Nat.mul_comm, Nat.mul_add_mod, Nat.mod_eq_of_lt h], show (i * (g + 1) + t) / (g + 1) = i by rw [Nat.mul_comm, Nat.mul_add_div (by omega), Nat.div_eq_of_lt h]; omega]
theorem mkS_marks (g : Nat) (sp : Nat → Nat) (n : Nat) : Marks g n (mkS g sp) (fun _ => false) := fun i => .inl ⟨fun j j' hj hj' _ _ mj mj' => by
  rw [mkS_at hj] at mj
  rw [mkS_at hj'] at mj'
  have e1 : j = sp i := by simpa using mj
  have e2 : j' = sp i := by simpa using mj'
  rw [e1, e2], fun _ _ => rfl⟩
/-- what the cells of protected bits are like -/
theorem cells_facts {g : Nat} {bs : List Int} (g0 : 0 < g) (hb : isBits bs) (hl : bs.length ≤ 400) :
    (∀ l ∈ loadsC bs, l.length = 48 ∧ isBits l) ∧ (∀ c ∈ cellsC g (loadsC bs), ∃ l, c = cellC l ∧ l.length = 48 ∧ isBits l) ∧ 0 < (cellsC g (loadsC bs)).length ∧ (cellsC g (loadsC bs)).length ≤ 20 ∧ (cellsC g (loadsC bs)).length % (g + 1) ≠ 1 := by
  have lds := loads_ok hb (by omega)
  have hcs := countL_short hl
  have htl := toldC_length bs
  have hLn := loads_length bs
  have h0 : 0 < (countL bs.length).length := by
    have := blen_pos (n := bs.length + 1) (by omega)
    rw [countL_length]; omega
  have hL0 : 0 < (loadsC bs).length := by omega
  have hLne : loadsC bs ≠ [] := List.length_pos_iff.mp hL0
  have hcl := cells_le g0 (loadsC bs)
  refine ⟨lds, fun c hc => ?_, cells_pos g0 hLne, by omega, cells_mod g0 hLne⟩
  unfold cellsC at hc
  obtain ⟨b, hb, hc⟩ := List.mem_flatten.mp hc
  obtain ⟨s, hs, rfl⟩ := List.mem_map.mp hb
  obtain ⟨l, hl, rfl⟩ := List.mem_map.mp hc
  exact ⟨l, rfl, grp_ok g0 lds s hs l hl⟩
theorem cell_good {l : List Int} (h : l.length = 48) : goodL (cellC l) = true := decide_eq_true (by rw [cellC_drop h, cellC_take h])
theorem chd_flat {m : Nat → Bool} {cs ch : List (List Int)} (h : Chd m cs ch) : (∀ c ∈ ch, c.length = 56 ∧ isBits c) := fun c hc => by
  obtain ⟨j, hj⟩ := List.getElem?_of_mem hc
  exact (h.at' j c hj).1
theorem chd_marks {m : Nat → Bool} {cs ch : List (List Int)} (h : Chd m cs ch) : ch.map goodL = (List.range ch.length).map fun j => !m j := by
  refine List.ext_getElem? fun i => ?_
  by_cases hi : i < ch.length
  · rw [List.getElem?_map, List.getElem?_map, List.getElem?_range hi, List.getElem?_eq_getElem hi]
    show some (goodL ch[i]) = some (!m i)
    rw [(h.at' i _ (List.getElem?_eq_getElem hi)).2.1]
  · rw [List.getElem?_eq_none (by rw [List.length_map]; omega), List.getElem?_eq_none (by simp; omega)]
theorem chunk56 {ch : List (List Int)} (h : ∀ c ∈ ch, c.length = 56 ∧ isBits c) : chunk 56 ch.flatten = ch := chunk_blocks (by decide) _ (Blk.whole (by decide) _ fun c hc => (h c hc).1)
/-- cells that are neither too few nor too many -/
theorem size_ok {g : Nat} {ch : List (List Int)} (h : ∀ c ∈ ch, c.length = 56 ∧ isBits c) (h0 : 0 < ch.length) (hm : ch.length % (g + 1) ≠ 1) : ch.flatten.all goodI = true ∧ ch.flatten.length = ch.length * 56 ∧ sizeOk g ch.flatten.length := by
  have hfl := flat_len ch fun c hc => (h c hc).1
  refine ⟨all_good.mpr (flat_bits _ fun c hc => (h c hc).2), hfl, by omega, by omega, ?_⟩
  rw [show ch.flatten.length / 56 = ch.length by omega]; exact hm
def mkT (x o1 o2 : Nat) (j : Nat) : Bool := decide (j = x + o1 ∨ j = x + o2)
theorem mkT_marks {g n i o1 o2 : Nat} (h1 : o1 < g + 1) (h2 : o2 < g + 1) (h12 : o1 ≠ o2) (hg1 : o1 < g) (hg2 : o2 < g) (hn1 : i * (g + 1) + o1 < n) (hn2 : i * (g + 1) + o2 < n) : Marks g n (mkT (i * (g + 1)) o1 o2) (mkT (i * g) o1 o2) := fun k => by
  have key : ∀ (G : Nat) (j : Nat), G = g ∨ G = g + 1 → j < G → k ≠ i → mkT (i * G) o1 o2 (k * G + j) = false := by
    intro G j hG hj hk
    unfold mkT
    refine decide_eq_false ?_
    have : ∀ o, o < G → k * G + j ≠ i * G + o := fun o ho e => by
      have e1 : (k * G + j) / G = k := by rw [Nat.mul_comm, Nat.mul_add_div (by omega), Nat.div_eq_of_lt hj]; omega
      have e2 : (i * G + o) / G = i := by rw [Nat.mul_comm, Nat.mul_add_div (by omega), Nat.div_eq_of_lt ho]; omega
      rw [e, e2] at e1
      exact hk e1.symm
    rintro (h | h)
    · exact this o1 (by omega) h
    · exact this o2 (by omega) h
  by_cases hk : k = i
  · subst hk
    refine .inr ⟨⟨o1, o2, h12, h1, h2, hn1, hn2, decide_eq_true (.inl rfl), decide_eq_true (.inr rfl)⟩, fun j hj => ?_⟩
    unfold mkT
    exact decide_eq_decide.mpr (by omega)
  · refine .inl ⟨fun j j' hj hj' _ _ mj _ => ?_, fun j hj => key g j (.inl rfl) hj hk⟩
    rw [key (g + 1) j (.inr rfl) hj hk] at mj
    cases mj
theorem s_eqFl {K : PySem.W.Frag} {H : Hp} {Q : VK} {a b : Addr} {vs : List V} (h1 : SqL K H a vs) (h2 : SqL K H b vs) (f : vs.all flatW = true) (q : Q (.bl true) H) : rEqD K (.ref a) (.ref b) H Q :=
  ⟨_, _, .lst h1 (dp_flats f), .lst h2 (dp_flats f), shaped_flatL f, shaped_flatL f, by rw [SeqAt.eqv_refl _ (SeqAt.canLay_of_shaped (shaped_flatL f))]; exact q⟩
theorem dueO_at {lost : Nat → Bool} {bs : List Int} {t : Nat} (h : t < bs.length) : (dueO lost bs)[t]? = some (if lost (((countL bs.length).length + t) / 48) = true then none else some bs[t]) := by
  unfold dueO
  rw [List.getElem?_map, List.getElem?_range h, Option.map_some, List.getD_eq_getElem?_getD, List.getElem?_eq_getElem h]; rfl
theorem dueO_len (lost : Nat → Bool) (bs : List Int) : (dueO lost bs).length = bs.length := by simp [dueO]
section
variable {P : Program} {w : World} {K : PySem.W.Frag} {mg : Str → Option Value} {base : Heap}
abbrev s_is_bit : Stmt := topS 9
theorem sc_is_bit : FnScope ["thing"] ["thing"] (defScope s_is_bit) := ⟨rfl, rfl, rfl, by decide +kernel, rfl, by decide +kernel, by decide +kernel⟩
def Ok_is_bit (P : Program) (w : World) (K : PySem.W.Frag) (mg : Str → Option Value) (base : Heap) : Prop := ∃ fA fd, Fn P w K mg base (L2.CX P w) 1 "is_bit" s_is_bit fA fd ["thing"] (sp_is_bit K mg)
theorem okx_is_bit (Z : Zs K mg) {fA : Addr} {fd : FuncData} (F : Fun K "is_bit" "is_bit" s_is_bit fA fd) (m : mg "is_bit" = some (.ref fA))  : Fn P w K mg base (L2.CX P w) 1 "is_bit" s_is_bit fA fd ["thing"] (sp_is_bit K mg) := by
  refine ⟨F.okX sc_is_bit (fun vs H Q E h => h.1) (fun cdv A outer s H vs Q E hr h => ?_), m, F.kp, F.binds fun _ _ _ _ _ _ us hl => match us, hl with | [_], _ => rfl, F⟩
  have hu64 := hr.units
  obtain ⟨hlen, h⟩ := h
  refine ⟨_, (pss_one (ps_ret (pe_and (pe_callB (c_isi K rfl) (by rfl) Z.z_isinstance (by decide +kernel) (pa_cons (pv 0) (pa_cons (pe_bltn (v := .ty "int") (by rfl) Z.z_int (by decide +kernel) rfl) pa_nil))) (pe_and (pe_not (pe_callB (c_isi K rfl) (by rfl) Z.z_isinstance (by decide +kernel) (pa_cons (pv 0) (pa_cons (pe_bltn (v := .ty "bool") (by rfl) Z.z_bool (by decide +kernel) rfl) pa_nil)))) (pe_one (pe_chain op_le op_le pe_int (pv 0) pe_int)))))), ?_⟩
  obtain ⟨b, rfl, q⟩ := h
  walk_at "r"
  refine s_isi (b := true) (.base (.int b)) (by decide +kernel) ?_
  walk_at "r"
  refine s_isi (b := false) (.base (.int b)) (by decide +kernel) ?_
  walk_at "r"
  refine ifd (fun h => ?_) (fun h => ?_)
  · walk_at "r"
    have e : goodI b = decide (b ≤ 1) := by unfold goodI; simp [h]
    rw [e] at q
    exact q
  · have e : goodI b = false := by unfold goodI; simp [h]
    rw [e] at q
    exact q
abbrev s_check_bits : Stmt := topS 10
theorem sc_check_bits : FnScope ["bits", "bit"] ["bits"] (defScope s_check_bits) := ⟨rfl, rfl, rfl, by decide +kernel, rfl, by decide +kernel, by decide +kernel⟩
def Ok_check_bits (P : Program) (w : World) (K : PySem.W.Frag) (mg : Str → Option Value) (base : Heap) : Prop := ∃ fA fd, Fn P w K mg base (L2.CX P w) 2 "check_bits" s_check_bits fA fd ["bits"] (sp_check_bits K mg)
theorem okx_check_bits (Z : Zs K mg) {fA : Addr} {fd : FuncData} (F : Fun K "check_bits" "check_bits" s_check_bits fA fd) (m : mg "check_bits" = some (.ref fA)) (C_is_bit : Ok_is_bit P w K mg base) : Fn P w K mg base (L2.CX P w) 2 "check_bits" s_check_bits fA fd ["bits"] (sp_check_bits K mg) := by
  obtain ⟨_, _, C_is_bit⟩ := C_is_bit
  refine ⟨F.okX sc_check_bits (fun vs H Q E h => h.1) (fun cdv A outer s H vs Q E hr h => ?_), m, F.kp, F.binds fun _ _ _ _ _ _ us hl => match us, hl with | [_], _ => rfl, F⟩
  have hu64 := hr.units
  obtain ⟨hlen, h⟩ := h
  refine ⟨_, (pss_one (ps_for (passes_of rfl) rfl (pi_list (pv 0)) (pg_name (i := 1) sc_check_bits.nd rfl (Or.inl rfl))
      (pss_one (ps_if (pt_not (pt_val (pe_call C_is_bit.G (hr.mono (by decide)) rfl C_is_bit.m C_is_bit.kp C_is_bit.b .nil passL (pa_cons (pv 1) pa_nil))))
      (pss_one (ps_raise rfl (takes_of rfl rfl rfl rfl) (pmk_own0 PySem.F.excBase_ValueError Z.x_BadBits.x Z.x_BadBits.g Z.x_BadBits.k (raises_own Z.x_BadBits.b Z.x_BadBits.t) rfl)))
      pss_nil)))), ?_⟩
  obtain ⟨a, ns, rfl, hS, hh⟩ := h
  walk_at "r"
  refine ⟨_, rfl, ⟨_, hS⟩, ?_⟩
  refine forL (xs := ns.map V.int) (fun i σ H' => ∃ v, σ = [some (.ref a), v] ∧ H = H' ∧ ∀ x ∈ ns.take i, goodI x = true) ⟨_, rfl, rfl, by simp⟩ (fun i σ H' _ ⟨_, _, e, _⟩ => e ▸ hS) ?_ ?_
  · rintro i x σ H' hx ⟨v, rfl, rfl, hg⟩
    rw [List.getElem?_map] at hx
    cases z : ns[i]? with
    | none => rw [z] at hx; cases hx
    | some b =>
      rw [z] at hx
      cases hx
      walk_at "r"
      refine ⟨rfl, b, rfl, ?_⟩
      cases e : goodI b with
      | true =>
        walk_at "r"
        refine ⟨_, rfl, rfl, fun y hy => ?_⟩
        obtain ⟨hi, hx'⟩ := List.getElem?_eq_some_iff.mp z
        rw [List.take_succ_eq_append_getElem hi, List.mem_append] at hy
        rcases hy with hy | hy
        · exact hg y hy
        · rw [hx', List.mem_singleton] at hy; rw [hy, e]
      | false =>
        walk_at "r"
        rcases hh with ⟨w, _⟩ | ⟨_, q⟩
        · rw [List.all_eq_true] at w
          rw [w b (List.mem_of_getElem? z)] at e
          cases e
        · exact q
  · rintro σ H' ⟨v, rfl, rfl, hg⟩
    rw [List.length_map, List.take_length, ← List.all_eq_true] at hg
    rcases hh with ⟨_, q⟩ | ⟨z, _⟩
    · walk_at "r"
      exact q
    · rw [hg] at z; cases z
abbrev s_fixed : Stmt := topS 12
theorem sc_fixed : FnScope ["n", "w", "digit"] ["n", "w"] (defScope s_fixed) := ⟨rfl, rfl, rfl, by decide +kernel, rfl, by decide +kernel, by decide +kernel⟩
def Ok_fixed (P : Program) (w : World) (K : PySem.W.Frag) (mg : Str → Option Value) (base : Heap) : Prop := ∃ fA fd, Fn P w K mg base (L2.CX P w) 1 "fixed" s_fixed fA fd ["n", "w"] (sp_fixed K mg)
theorem okx_fixed (Z : Zs K mg) {fA : Addr} {fd : FuncData} (F : Fun K "fixed" "fixed" s_fixed fA fd) (m : mg "fixed" = some (.ref fA))  : Fn P w K mg base (L2.CX P w) 1 "fixed" s_fixed fA fd ["n", "w"] (sp_fixed K mg) := by
  refine ⟨F.okX sc_fixed (fun vs H Q E h => h.1) (fun cdv A outer s H vs Q E hr h => ?_), m, F.kp, F.binds fun _ _ _ _ _ _ us hl => match us, hl with | [_, _], _ => rfl, F⟩
  have hu64 := hr.units
  obtain ⟨hlen, h⟩ := h
  refine ⟨_, (pss_cons (ps_if (PW.pt (pw_or (pt_cmpR op_lt (pv 0) pe_int (nomark _)) (pw_or (pt_cmpR op_lt (pv 1) pe_int (nomark _)) (pw_or1 (pt_cmpR op_gt (pe_bits (pv 0)) (pv 1) (nomark _))))))
      (pss_one (ps_raise rfl (takes_of rfl rfl rfl rfl) (pmk_own0 PySem.F.excBase_ValueError Z.x_Outside.x Z.x_Outside.g Z.x_Outside.k (raises_own Z.x_Outside.b Z.x_Outside.t) rfl)))
      pss_nil)
    (pss_cons (ps_if (pt_cmpR op_eq (pv 1) pe_int (nomark _))
      (pss_one (ps_ret (pe_lst pa_nil)))
      pss_nil)
    (pss_one (ps_ret (pe_lc (own := [("digit", 2)]) (g := gName 2) (tt := tYes) (by rfl) sc_fixed.nd (pi_str (pe_bm PySem.F.plainAttrs_str PySem.F.slot_str_zfill PySem.F.type_str_zfill mt_zfill (pe_joined1 (pe_fmtB (pv 0))) (pa_cons (pv 1) pa_nil))) (blkOk_by (own := [("digit", 2)]) (N := ["n", "w", "digit"]) (sc := defScope s_fixed) (by decide +kernel)) (fun _ _ _ _ _ => (pg_name (i := 2) sc_fixed.nd rfl (Or.inl rfl))) (fun _ _ _ _ _ => pts_nil) (fun _ _ _ _ _ => (pe_callTy call_int_str (by rfl) Z.z_int (by decide +kernel) (pa_cons (pv 2) pa_nil)))))))), ?_⟩
  obtain ⟨n, w, rfl, hn, hw, hw2, hlt, k⟩ := h
  walk_at "r"
  refine ifd (fun h => absurd h (by omega)) (fun _ => ?_)
  walk_at "r"
  refine ifd (fun h => absurd h (by omega)) (fun _ => ?_)
  walk_at "r"
  have hb := (intBits_le (w := w.toNat) hn).mpr hlt
  refine ifd (fun h => absurd h (by omega)) (fun _ => ?_)
  walk_at "r"
  refine ifd (fun h => ?_) (fun h => ?_)
  · walk_at "r"
    subst h
    exact ⟨sz (by simp), fun p hp => k p _ (Stp.new (S := S0) (Same.refl H) hp).same hp upd_same⟩
  · walk_at "r"
    obtain ⟨w', rfl⟩ : ∃ w' : Nat, w = ((w' + 1 : Nat) : Int) := ⟨w.toNat - 1, by omega⟩
    rw [Int.toNat_natCast] at hlt k
    have en : n.natAbs = n.toNat := by omega
    refine ⟨hn, Nat.le_trans (bits_le (n := n.natAbs) (by rw [en]; exact hlt)) (by omega), ?_⟩
    refine ⟨rfl, ?_⟩
    walk_at "r"
    refine ⟨_, _, rfl, rfl, pad_ok (by omega), ?_⟩
    refine ⟨_, rfl, ?_⟩
    have hz := zfill_bin hlt
    rw [show n.toNat = n.natAbs by omega] at hz
    have hs : (Txt.zfill (binText n.natAbs) ((w' + 1 : Nat) : Int)).cps.size = w' + 1 := by
      rw [← Array.length_toList, hz, List.length_map, fixL_len]
    refine lcW walk_str S0 (Same.refl H) (fun _ z => z.elim) (fun _ _ _ => trivial) (fun i acc F1 H1 => acc = (bitsV (w' + 1) n.toNat).take i) (fun _ _ _ _ _ _ _ _ _ r => r) rfl ?_ ?_
    · rintro i x acc d F1 H1 H2 hi ⟨rfl, c, hc, rfl⟩ hd nS st f0 e hl r
      walk_at "r"
      have hc2 : ((fixL (w' + 1) n.natAbs).map code)[i]? = some c := by rw [← hz]; simpa using hc
      rw [List.getElem?_map] at hc2
      cases hb2 : (fixL (w' + 1) n.natAbs)[i]? with
      | none => rw [hb2] at hc2; cases hc2
      | some b =>
        rw [hb2] at hc2
        have ec : code b = c := Option.some.inj hc2
        subst ec
        refine ⟨_, _, rfl, text_bit (fixL_bit _ _ b (List.mem_of_getElem? hb2)), (by show 1 ≤ 640; decide), ?_⟩
        refine lc_end hd nS st f0 e hl (by rw [hs] at hi; omega) (.rfl' st.fh) ?_
        have hi2 : i < (bitsV (w' + 1) n.toNat).length := by simp [bitsV, fixL_len]; rw [hs] at hi; exact hi
        rw [r, List.take_succ_eq_append_getElem hi2]
        congr 2
        have q2 : (bitsV (w' + 1) n.toNat)[i]? = some (V.int b) := by rw [bitsV, List.getElem?_map, ← en, hb2]; rfl
        rw [List.getElem?_eq_getElem hi2] at q2
        exact (Option.some.inj q2).symm
    · intro d acc F0 F1 H1 st hd f0 ef st1 hl r
      refine k d H1 st.same hd ?_
      rw [ef] at st1
      rw [st1.fh _ _ upd_same, r, hs, List.take_of_length_le (by simp [bitsV, fixL_len])]
abbrev s_number_of : Stmt := topS 11
theorem sc_number_of : FnScope ["bits", "found", "bit"] ["bits"] (defScope s_number_of) := ⟨rfl, rfl, rfl, by decide +kernel, rfl, by decide +kernel, by decide +kernel⟩
def Ok_number_of (P : Program) (w : World) (K : PySem.W.Frag) (mg : Str → Option Value) (base : Heap) : Prop := ∃ fA fd, Fn P w K mg base (L2.CX P w) 1 "number_of" s_number_of fA fd ["bits"] (sp_number_of K mg)
theorem okx_number_of (Z : Zs K mg) {fA : Addr} {fd : FuncData} (F : Fun K "number_of" "number_of" s_number_of fA fd) (m : mg "number_of" = some (.ref fA))  : Fn P w K mg base (L2.CX P w) 1 "number_of" s_number_of fA fd ["bits"] (sp_number_of K mg) := by
  refine ⟨F.okX sc_number_of (fun vs H Q E h => h.1) (fun cdv A outer s H vs Q E hr h => ?_), m, F.kp, F.binds fun _ _ _ _ _ _ us hl => match us, hl with | [_], _ => rfl, F⟩
  have hu64 := hr.units
  obtain ⟨hlen, h⟩ := h
  refine ⟨_, (pss_cons (ps_set (i := 1) sc_number_of.nd rfl (Or.inl rfl) pe_int)
    (pss_cons (ps_for (passes_of rfl) rfl (pi_list (pv 0)) (pg_name (i := 2) sc_number_of.nd rfl (Or.inl rfl))
      (pss_one (ps_set (i := 1) sc_number_of.nd rfl (Or.inl rfl) (pe_op op_add (pe_op op_mul pe_int (pv 1)) (pv 2)))))
    (pss_one (ps_ret (pv 1))))), ?_⟩
  obtain ⟨a, bs, rfl, hS, q⟩ := h
  walk_at "r"
  refine ⟨_, rfl, ⟨_, hS⟩, ?_⟩
  refine forL (xs := bs.map V.int) (fun i σ H' => ∃ v, σ = [some (.ref a), some (.int (numL (bs.take i))), v] ∧ H = H') ⟨_, rfl, rfl⟩ (fun i σ H' _ ⟨_, _, e⟩ => e ▸ hS) ?_ ?_
  · rintro i x σ H' hx ⟨v, rfl, rfl⟩
    rw [List.getElem?_map] at hx
    cases z : bs[i]? with
    | none => rw [z] at hx; cases hx
    | some b =>
      rw [z] at hx
      cases hx
      have hi : i < bs.length := (List.getElem?_eq_some_iff.mp z).1
      have et : bs.take (i + 1) = bs.take i ++ [b] := by
        rw [List.take_succ_eq_append_getElem hi]
        rw [List.getElem?_eq_getElem hi] at z
        rw [Option.some.inj z]
      have hv : 2 * numL (bs.take i) + b = numL (bs.take (i + 1)) := by rw [et, numL_snoc]
      walk_at "r"
      rw [hv]
      exact ⟨_, rfl, rfl⟩
  · rintro σ H' ⟨v, rfl, rfl⟩
    rw [List.length_map, List.take_length]
    walk_at "r"
    exact q
abbrev s_count_bits : Stmt := topS 13
theorem sc_count_bits : FnScope ["n", "width"] ["n"] (defScope s_count_bits) := ⟨rfl, rfl, rfl, by decide +kernel, rfl, by decide +kernel, by decide +kernel⟩
def Ok_count_bits (P : Program) (w : World) (K : PySem.W.Frag) (mg : Str → Option Value) (base : Heap) : Prop := ∃ fA fd, Fn P w K mg base (L2.CX P w) 2 "count_bits" s_count_bits fA fd ["n"] (sp_count_bits K mg)
theorem okx_count_bits (Z : Zs K mg) {fA : Addr} {fd : FuncData} (F : Fun K "count_bits" "count_bits" s_count_bits fA fd) (m : mg "count_bits" = some (.ref fA)) (C_fixed : Ok_fixed P w K mg base) : Fn P w K mg base (L2.CX P w) 2 "count_bits" s_count_bits fA fd ["n"] (sp_count_bits K mg) := by
  obtain ⟨_, _, C_fixed⟩ := C_fixed
  refine ⟨F.okX sc_count_bits (fun vs H Q E h => h.1) (fun cdv A outer s H vs Q E hr h => ?_), m, F.kp, F.binds fun _ _ _ _ _ _ us hl => match us, hl with | [_], _ => rfl, F⟩
  have hu64 := hr.units
  obtain ⟨hlen, h⟩ := h
  refine ⟨_, (pss_cons (ps_if (pt_not (pt_chain op_le op_le pe_int (pv 0) (pe_glob (v := .int (2199023255550)) rfl Z.c_MOST_COUNT ⟨_, rfl⟩)))
      (pss_one (ps_raise rfl (takes_of rfl rfl rfl rfl) (pmk_own0 PySem.F.excBase_ValueError Z.x_Great.x Z.x_Great.g Z.x_Great.k (raises_own Z.x_Great.b Z.x_Great.t) rfl)))
      pss_nil)
    (pss_cons (ps_set (i := 1) sc_count_bits.nd rfl (Or.inl rfl) (pe_bits (pe_op op_add (pv 0) pe_int)))
    (pss_one (ps_ret (pe_op op_cat (pe_op op_rep (pe_lst (pa_cons pe_int pa_nil)) (pe_op op_sub (pv 1) pe_int)) (pe_call C_fixed.G (hr.mono (by decide)) rfl C_fixed.m C_fixed.kp C_fixed.b .nil passL (pa_cons (pe_op op_add (pv 0) pe_int) (pa_cons (pv 1) pa_nil)))))))), ?_⟩
  obtain ⟨n, rfl, hh⟩ := h
  walk_at "r"
  refine ifd (fun h0 => ?_) (fun h0 => ?_)
  · walk_at "r"
    refine ifn (fun h1 => ?_) (fun h1 => ?_)
    · rcases hh with ⟨_, _, q⟩ | ⟨z, _⟩
      · walk_at "r"
        have eb := intBits_blen (n := n + 1) (by omega)
        have b1 := blen_pos (n := (n + 1).toNat) (by omega)
        have b2 := blen_lt (n + 1).toNat
        have b3 : blen (n + 1).toNat ≤ 41 := blen_le (by omega)
        rw [eb]
        refine ⟨sz (by simp), fun a ha => ?_⟩
        have s1 := Stp.new (S := S0) (o := .lst [.int 0]) (Same.refl H) ha
        walk_at "r"
        refine s_rep upd_same (by omega) (by omega) fun b hb => ?_
        have s2 := Stp.new (S := S0) (o := .lst (List.replicate ((blen (n + 1).toNat : Int) - 1).toNat (V.int 0))) s1.fh hb
        walk_at "r"
        refine ⟨rfl, _, _, rfl, by omega, by omega, by omega, by rw [Int.toNat_natCast]; exact b2, fun c H3 e3 c0 hc => ?_⟩
        refine ⟨_, _, _, _, rfl, rfl, e3 _ _ upd_same, hc, sz (by simp [bitsV, fixL_len]; omega), fun d hd => ?_⟩
        have s4 := Stp.new (S := S0) (o := .lst (List.replicate ((blen (n + 1).toNat : Int) - 1).toNat (V.int 0) ++ bitsV ((blen (n + 1).toNat : Nat) : Int).toNat (n + 1).toNat)) (Same.refl H3) hd
        have e4 := ((s1.trans s2).same.trans e3).trans s4.same
        refine q d _ e4 (((s1.trans s2).same.trans e3).free hd) ?_
        rw [upd_same]
        unfold countL
        rw [List.map_append, List.map_replicate, show (n + 1).toNat = n.toNat + 1 by omega, Int.toNat_natCast, show ((blen (n.toNat + 1) : Int) - 1).toNat = blen (n.toNat + 1) - 1 by omega]
        rfl
      · exact absurd ⟨h0, h1⟩ z
    · rcases hh with ⟨_, z, _⟩ | ⟨_, q⟩
      · exact absurd z h1
      · exact q
  · walk_at "r"
    rcases hh with ⟨z, _, _⟩ | ⟨_, q⟩
    · exact absurd z h0
    · exact q
abbrev s_count_at : Stmt := topS 14
theorem sc_count_at : FnScope ["bits", "at", "place", "zeros", "behind"] ["bits", "at"] (defScope s_count_at) := ⟨rfl, rfl, rfl, by decide +kernel, rfl, by decide +kernel, by decide +kernel⟩
def Ok_count_at (P : Program) (w : World) (K : PySem.W.Frag) (mg : Str → Option Value) (base : Heap) : Prop := ∃ fA fd, Fn P w K mg base (L2.CX P w) 2 "count_at" s_count_at fA fd ["bits", "at"] (sp_count_at K mg)
theorem okx_count_at (Z : Zs K mg) {fA : Addr} {fd : FuncData} (F : Fun K "count_at" "count_at" s_count_at fA fd) (m : mg "count_at" = some (.ref fA)) (C_number_of : Ok_number_of P w K mg base) : Fn P w K mg base (L2.CX P w) 2 "count_at" s_count_at fA fd ["bits", "at"] (sp_count_at K mg) := by
  obtain ⟨_, _, C_number_of⟩ := C_number_of
  refine ⟨F.okX sc_count_at (fun vs H Q E h => h.1) (fun cdv A outer s H vs Q E hr h => ?_), m, F.kp, F.binds fun _ _ _ _ _ _ us hl => match us, hl with | [_, _], _ => rfl, F⟩
  have hu64 := hr.units
  obtain ⟨hlen, h⟩ := h
  refine ⟨_, (pss_cons (ps_set (i := 2) sc_count_at.nd rfl (Or.inl rfl) (pv 1))
    (pss_cons (ps_while (passes_of rfl) (PW.pt (pw_and (pt_cmpR op_lt (pv 2) (pe_callB (c_len K rfl) (by rfl) Z.z_len (by decide +kernel) (pa_cons (pv 0) pa_nil)) (nomark _)) (pw_and (pt_cmpR op_le (pe_op op_sub (pv 2) (pv 1)) (pe_glob (v := .int (40)) rfl Z.c_MOST_ZEROS ⟨_, rfl⟩) (nomark _)) (pw_and1 (pt_cmpR op_eq (pe_ix (i_list K rfl) (pv 0) (pv 2) (fun _ _ => rfl)) pe_int (nomark _))))))
      (pss_one (ps_set (i := 2) sc_count_at.nd rfl (Or.inl rfl) (pe_op op_add (pv 2) pe_int))))
    (pss_cons (ps_set (i := 3) sc_count_at.nd rfl (Or.inl rfl) (pe_op op_sub (pv 2) (pv 1)))
    (pss_cons (ps_if (pt_cmpR op_gt (pv 3) (pe_glob (v := .int (40)) rfl Z.c_MOST_ZEROS ⟨_, rfl⟩) (nomark _))
      (pss_one (ps_ret (pe_tup (pa_cons pe_str pa_nil))))
      pss_nil)
    (pss_cons (ps_set (i := 4) sc_count_at.nd rfl (Or.inl rfl) (pe_op op_add (pe_op op_add (pv 2) (pv 3)) pe_int))
    (pss_cons (ps_if (pt_cmpR op_gt (pv 4) (pe_callB (c_len K rfl) (by rfl) Z.z_len (by decide +kernel) (pa_cons (pv 0) pa_nil)) (nomark _))
      (pss_one (ps_ret (pe_tup (pa_cons pe_str pa_nil))))
      pss_nil)
    (pss_one (ps_ret (pe_tup (pa_cons pe_str (pa_cons (pe_op op_sub (pe_call C_number_of.G (hr.mono (by decide)) rfl C_number_of.m C_number_of.kp C_number_of.b .nil passL (pa_cons (pe_slice (l_list K rfl) (pv 0) (po_some (pv 2)) (po_some (pv 4))) pa_nil)) pe_int) (pa_cons (pv 4) pa_nil)))))))))))), ?_⟩
  obtain ⟨a, bs, n, rfl, hS, hn, hlen, q⟩ := h
  have hz := zrun_le hn
  walk_at "r"
  refine whileM (mon_and (mon_test (mon_op mon_I0 mon_var (mon_len (mon_cons mon_var mon_nil)))) (mon_and (mon_test (mon_op mon_I0 (mon_op mon_I0 mon_var mon_var) mon_c)) (mon_test (mon_op mon_eq (mon_op mon_ixL mon_var mon_var) mon_c))))
    (fun σ H' => ∃ j : Nat, σ = [some (.ref a), some (.int n), some (.int ((n + j : Nat) : Int)), none, none] ∧ H = H' ∧ j ≤ min 41 (zrun bs n)) (fun σ _ => match σ with
      | [_, _, some (.int p), _, _] => (n + 41 - p.toNat)
      | _ => 0) ⟨0, rfl, rfl, Nat.zero_le _⟩ ?_
  rintro σ H' ⟨j, rfl, rfl, hj⟩
  walk_at "r"
  refine ifd (fun h1 => ?_) (fun h1 => ?_)
  · walk_at "r"
    refine ifd (fun h2 => ?_) (fun h2 => ?_)
    · walk_at "r"
      have hl : n + j < bs.length := by simp at h1; omega
      refine s_ixL hS (at_nat' (get_int hl)) ?_
      walk_at "r"
      refine ifd (fun h3 => ?_) (fun h3 => ?_)
      · walk_at "r"
        have hlt : j < zrun bs n := by
          refine Decidable.byContradiction fun z => ?_
          have e : j = zrun bs n := by omega
          refine zrun_end (bs := bs) (a := n) ?_
          rw [← e, List.getElem?_eq_getElem hl, h3]
        refine ⟨⟨j + 1, ?_, rfl, by omega⟩, ?_⟩
        · rfl
        · show n + 41 - (((n + j : Nat) : Int) + 1).toNat < n + 41 - (((n + j : Nat) : Int)).toNat
          omega
      · have e : j = min 41 (zrun bs n) := by
          by_cases z : j < zrun bs n
          · have q2 := zrun_at z
            rw [List.getElem?_eq_getElem hl] at q2
            exact absurd (Option.some.inj q2) h3
          · omega
        -- behind the loop
        walk_at "r"
        have ez : ((n + j : Nat) : Int) - (n : Int) = (j : Int) := by omega
        rw [ez]
        refine ifd (fun h4 => ?_) (fun h4 => ?_)
        · walk_at "r"
          refine ⟨sz (by simp), fun p hp => q p _ (Stp.new (S := S0) (Same.refl _) hp).same hp ?_⟩
          rw [upd_same, cntR, if_pos (by omega)]
        · walk_at "r"
          refine ifd (fun h5 => ?_) (fun h5 => ?_)
          · walk_at "r"
            refine ⟨sz (by simp), fun p hp => q p _ (Stp.new (S := S0) (Same.refl _) hp).same hp ?_⟩
            rw [upd_same, cntR, if_neg (by omega), if_pos (by simp at h5; omega)]
          · walk_at "r"
            have eb : ((n + j : Nat) : Int) + (j : Int) + 1 = ((n + j + j + 1 : Nat) : Int) := by omega
            rw [eb]
            refine s_slL hS fun p1 hp1 => ?_
            rw [cutV_nat, show n + j + j + 1 - (n + j) = j + 1 by omega]
            have s1 := Stp.new (S := S0) (o := .lst (((bs.map V.int).drop (n + j)).take (j + 1))) (Same.refl _) hp1
            refine ⟨rfl, p1, (bs.drop (n + j)).take (j + 1), rfl, SqL.of (by rw [upd_same, List.map_take, List.map_drop]), ?_⟩
            walk_at "r"
            refine ⟨sz (by simp), fun p hp => q p _ (s1.same.trans (Stp.new (S := S0) (Same.refl _) hp).same) (s1.same.free hp) ?_⟩
            rw [upd_same, cntR, if_neg (by omega), if_neg (by simp at h5; omega), ← e]
    · have e : j = min 41 (zrun bs n) := by omega
      -- behind the loop
      walk_at "r"
      have ez : ((n + j : Nat) : Int) - (n : Int) = (j : Int) := by omega
      rw [ez]
      refine ifd (fun h4 => ?_) (fun h4 => ?_)
      · walk_at "r"
        refine ⟨sz (by simp), fun p hp => q p _ (Stp.new (S := S0) (Same.refl _) hp).same hp ?_⟩
        rw [upd_same, cntR, if_pos (by omega)]
      · walk_at "r"
        refine ifd (fun h5 => ?_) (fun h5 => ?_)
        · walk_at "r"
          refine ⟨sz (by simp), fun p hp => q p _ (Stp.new (S := S0) (Same.refl _) hp).same hp ?_⟩
          rw [upd_same, cntR, if_neg (by omega), if_pos (by simp at h5; omega)]
        · walk_at "r"
          have eb : ((n + j : Nat) : Int) + (j : Int) + 1 = ((n + j + j + 1 : Nat) : Int) := by omega
          rw [eb]
          refine s_slL hS fun p1 hp1 => ?_
          rw [cutV_nat, show n + j + j + 1 - (n + j) = j + 1 by omega]
          have s1 := Stp.new (S := S0) (o := .lst (((bs.map V.int).drop (n + j)).take (j + 1))) (Same.refl _) hp1
          refine ⟨rfl, p1, (bs.drop (n + j)).take (j + 1), rfl, SqL.of (by rw [upd_same, List.map_take, List.map_drop]), ?_⟩
          walk_at "r"
          refine ⟨sz (by simp), fun p hp => q p _ (s1.same.trans (Stp.new (S := S0) (Same.refl _) hp).same) (s1.same.free hp) ?_⟩
          rw [upd_same, cntR, if_neg (by omega), if_neg (by simp at h5; omega), ← e]
  · have e : j = min 41 (zrun bs n) := by simp at h1; omega
    -- behind the loop
    walk_at "r"
    have ez : ((n + j : Nat) : Int) - (n : Int) = (j : Int) := by omega
    rw [ez]
    refine ifd (fun h4 => ?_) (fun h4 => ?_)
    · walk_at "r"
      refine ⟨sz (by simp), fun p hp => q p _ (Stp.new (S := S0) (Same.refl _) hp).same hp ?_⟩
      rw [upd_same, cntR, if_pos (by omega)]
    · walk_at "r"
      refine ifd (fun h5 => ?_) (fun h5 => ?_)
      · walk_at "r"
        refine ⟨sz (by simp), fun p hp => q p _ (Stp.new (S := S0) (Same.refl _) hp).same hp ?_⟩
        rw [upd_same, cntR, if_neg (by omega), if_pos (by simp at h5; omega)]
      · walk_at "r"
        have eb : ((n + j : Nat) : Int) + (j : Int) + 1 = ((n + j + j + 1 : Nat) : Int) := by omega
        rw [eb]
        refine s_slL hS fun p1 hp1 => ?_
        rw [cutV_nat, show n + j + j + 1 - (n + j) = j + 1 by omega]
        have s1 := Stp.new (S := S0) (o := .lst (((bs.map V.int).drop (n + j)).take (j + 1))) (Same.refl _) hp1
        refine ⟨rfl, p1, (bs.drop (n + j)).take (j + 1), rfl, SqL.of (by rw [upd_same, List.map_take, List.map_drop]), ?_⟩
        walk_at "r"
        refine ⟨sz (by simp), fun p hp => q p _ (s1.same.trans (Stp.new (S := S0) (Same.refl _) hp).same) (s1.same.free hp) ?_⟩
        rw [upd_same, cntR, if_neg (by omega), if_neg (by simp at h5; omega), ← e]
abbrev s_check_of : Stmt := topS 20
theorem sc_check_of : FnScope ["bits", "held", "bit", "top"] ["bits"] (defScope s_check_of) := ⟨rfl, rfl, rfl, by decide +kernel, rfl, by decide +kernel, by decide +kernel⟩
def Ok_check_of (P : Program) (w : World) (K : PySem.W.Frag) (mg : Str → Option Value) (base : Heap) : Prop := ∃ fA fd, Fn P w K mg base (L2.CX P w) 2 "check_of" s_check_of fA fd ["bits"] (sp_check_of K mg)
theorem okx_check_of (Z : Zs K mg) {fA : Addr} {fd : FuncData} (F : Fun K "check_of" "check_of" s_check_of fA fd) (m : mg "check_of" = some (.ref fA)) (C_fixed : Ok_fixed P w K mg base) : Fn P w K mg base (L2.CX P w) 2 "check_of" s_check_of fA fd ["bits"] (sp_check_of K mg) := by
  obtain ⟨_, _, C_fixed⟩ := C_fixed
  refine ⟨F.okX sc_check_of (fun vs H Q E h => h.1) (fun cdv A outer s H vs Q E hr h => ?_), m, F.kp, F.binds fun _ _ _ _ _ _ us hl => match us, hl with | [_], _ => rfl, F⟩
  have hu64 := hr.units
  obtain ⟨hlen, h⟩ := h
  refine ⟨_, (pss_cons (ps_set (i := 1) sc_check_of.nd rfl (Or.inl rfl) pe_int)
    (pss_cons (ps_for (passes_of rfl) rfl (pi_list (pv 0)) (pg_name (i := 2) sc_check_of.nd rfl (Or.inl rfl))
      (pss_cons (ps_set (i := 3) sc_check_of.nd rfl (Or.inl rfl) (pe_op op_xor (pe_op op_fdiv (pv 1) (pe_glob (v := .int (128)) rfl Z.c_HIGHEST ⟨_, rfl⟩)) (pv 2)))
    (pss_cons (ps_set (i := 1) sc_check_of.nd rfl (Or.inl rfl) (pe_op op_mod (pe_op op_mul pe_int (pv 1)) (pe_glob (v := .int (256)) rfl Z.c_STATES ⟨_, rfl⟩)))
    (pss_one (ps_if (pt_cmpR op_eq (pv 3) pe_int (nomark _))
      (pss_one (ps_set (i := 1) sc_check_of.nd rfl (Or.inl rfl) (pe_op op_xor (pv 1) (pe_glob (v := .int (7)) rfl Z.c_TURN ⟨_, rfl⟩))))
      pss_nil)))))
    (pss_one (ps_ret (pe_call C_fixed.G (hr.mono (by decide)) rfl C_fixed.m C_fixed.kp C_fixed.b .nil passL (pa_cons (pv 1) (pa_cons (pe_glob (v := .int (8)) rfl Z.c_CHECK_SIZE ⟨_, rfl⟩) pa_nil))))))), ?_⟩
  obtain ⟨a, bs, rfl, hS, hb, q⟩ := h
  walk_at "r"
  refine ⟨_, rfl, ⟨_, hS⟩, ?_⟩
  refine forL (xs := bs.map V.int) (fun i σ H' => ∃ v w, σ = [some (.ref a), some (.int (chk (bs.take i) : Nat)), v, w] ∧ H = H') ⟨_, _, rfl, rfl⟩ (fun i σ H' _ ⟨_, _, _, e⟩ => e ▸ hS) ?_ ?_
  · rintro i x σ H' hx ⟨v, w, rfl, rfl⟩
    rw [List.getElem?_map] at hx
    cases z : bs[i]? with
    | none => rw [z] at hx; cases hx
    | some b =>
      rw [z] at hx
      cases hx
      have hbb := hb b (List.mem_of_getElem? z)
      have hi : i < bs.length := (List.getElem?_eq_some_iff.mp z).1
      have et : bs.take (i + 1) = bs.take i ++ [b] := by
        rw [List.take_succ_eq_append_getElem hi]
        rw [List.getElem?_eq_getElem hi] at z
        rw [Option.some.inj z]
      have lt := chk_lt (bs.take i)
      have b0 : 0 ≤ b := by rcases hbb with rfl | rfl <;> decide
      have es : chk (bs.take (i + 1)) = stp (chk (bs.take i)) b.toNat := by rw [et]; exact cf_snoc _ _ _
      have e1 : Builtin.bitXor ((chk (bs.take i) : Int) / 128) b = (((chk (bs.take i) / 128) ^^^ b.toNat : Nat) : Int) := by
        rw [Bits.bitXor_pp (by omega) b0]; congr 2
      have e2 : (2 * (chk (bs.take i) : Int)) % 256 = ((2 * chk (bs.take i) % 256 : Nat) : Int) := by simp
      walk_at "r"
      rw [e1]
      refine ifd (fun h => ?_) (fun h => ?_)
      · have h' : (chk (bs.take i) / 128) ^^^ b.toNat = 1 := by omega
        have hv : Builtin.bitXor (2 * (chk (bs.take i) : Int) % 256) 7 = ((chk (bs.take (i + 1)) : Nat) : Int) := by
          rw [e2, Bits.bitXor_pp (by omega) (by decide), es, stp, if_pos h']; rfl
        walk_at "r"
        rw [hv]
        exact ⟨_, _, rfl, rfl⟩
      · have h' : ¬ (chk (bs.take i) / 128) ^^^ b.toNat = 1 := by omega
        have hv : 2 * (chk (bs.take i) : Int) % 256 = ((chk (bs.take (i + 1)) : Nat) : Int) := by
          rw [e2, es, stp, if_neg h', Nat.xor_zero]
        walk_at "r"
        rw [hv]
        exact ⟨_, _, rfl, rfl⟩
  · rintro σ H' ⟨v, w, rfl, rfl⟩
    rw [List.length_map, List.take_length]
    walk_at "r"
    refine ⟨rfl, _, _, rfl, by omega, by decide, by decide, by rw [Int.toNat_natCast]; exact chk_lt bs, fun p H1 s1 hp h1 => q p H1 s1 hp ?_⟩
    rw [h1, Int.toNat_natCast]; rfl
abbrev s_want_group : Stmt := topS 26
theorem sc_want_group : FnScope ["group"] ["group"] (defScope s_want_group) := ⟨rfl, rfl, rfl, by decide +kernel, rfl, by decide +kernel, by decide +kernel⟩
def Ok_want_group (P : Program) (w : World) (K : PySem.W.Frag) (mg : Str → Option Value) (base : Heap) : Prop := ∃ fA fd, Fn P w K mg base (L2.CX P w) 1 "want_group" s_want_group fA fd ["group"] (sp_want_group K mg)
theorem okx_want_group (Z : Zs K mg) {fA : Addr} {fd : FuncData} (F : Fun K "want_group" "want_group" s_want_group fA fd) (m : mg "want_group" = some (.ref fA))  : Fn P w K mg base (L2.CX P w) 1 "want_group" s_want_group fA fd ["group"] (sp_want_group K mg) := by
  refine ⟨F.okX sc_want_group (fun vs H Q E h => h.1) (fun cdv A outer s H vs Q E hr h => ?_), m, F.kp, F.binds fun _ _ _ _ _ _ us hl => match us, hl with | [_], _ => rfl, F⟩
  have hu64 := hr.units
  obtain ⟨hlen, h⟩ := h
  refine ⟨_, (pss_one (ps_if (pt_not (pt_chain op_le op_le pe_int (pv 0) (pe_glob (v := .int (8)) rfl Z.c_MOST_GROUP ⟨_, rfl⟩)))
      (pss_one (ps_raise rfl (takes_of rfl rfl rfl rfl) (pmk_own0 PySem.F.excBase_ValueError Z.x_Outside.x Z.x_Outside.g Z.x_Outside.k (raises_own Z.x_Outside.b Z.x_Outside.t) rfl)))
      pss_nil)), ?_⟩
  obtain ⟨g, rfl, hh⟩ := h
  walk_at "r"
  refine ifd (fun h0 => ?_) (fun h0 => ?_)
  · walk_at "r"
    refine ifn (fun h1 => ?_) (fun h1 => ?_)
    · rcases hh with ⟨_, _, q⟩ | ⟨z, _⟩
      · walk_at "r"
        exact q
      · exact absurd ⟨h0, h1⟩ z
    · walk_at "r"
      rcases hh with ⟨_, z, _⟩ | ⟨_, q⟩
      · exact absurd z h1
      · exact q
  · walk_at "r"
    rcases hh with ⟨z, _, _⟩ | ⟨_, q⟩
    · exact absurd z h0
    · exact q
abbrev s_cut_up : Stmt := topS 27
theorem sc_cut_up : FnScope ["things", "size", "at"] ["things", "size"] (defScope s_cut_up) := ⟨rfl, rfl, rfl, by decide +kernel, rfl, by decide +kernel, by decide +kernel⟩
def Ok_cut_up (P : Program) (w : World) (K : PySem.W.Frag) (mg : Str → Option Value) (base : Heap) : Prop := ∃ fA fd, Fn P w K mg base (L2.CX P w) 1 "cut_up" s_cut_up fA fd ["things", "size"] (sp_cut_up K mg)
theorem okx_cut_up (Z : Zs K mg) {fA : Addr} {fd : FuncData} (F : Fun K "cut_up" "cut_up" s_cut_up fA fd) (m : mg "cut_up" = some (.ref fA))  : Fn P w K mg base (L2.CX P w) 1 "cut_up" s_cut_up fA fd ["things", "size"] (sp_cut_up K mg) := by
  refine ⟨F.okX sc_cut_up (fun vs H Q E h => h.1) (fun cdv A outer s H vs Q E hr h => ?_), m, F.kp, F.binds fun _ _ _ _ _ _ us hl => match us, hl with | [_, _], _ => rfl, F⟩
  have hu64 := hr.units
  obtain ⟨hlen, h⟩ := h
  refine ⟨_, (pss_one (ps_ret (pe_lc (own := [("at", 2)]) (g := gName 2) (tt := tYes) (by rfl) sc_cut_up.nd (pi_range3 rfl Z.z_range (pa_cons pe_int (pa_cons (pe_callB (c_len K rfl) (by rfl) Z.z_len (by decide +kernel) (pa_cons (pv 0) pa_nil)) (pa_cons (pv 1) pa_nil)))) (blkOk_by (own := [("at", 2)]) (N := ["things", "size", "at"]) (sc := defScope s_cut_up) (by decide +kernel)) (fun _ _ _ _ _ => (pg_name (i := 2) sc_cut_up.nd rfl (Or.inl rfl))) (fun _ _ _ _ _ => pts_nil) (fun _ _ _ _ _ => (pe_slice (l_list K rfl) (pv 0) (po_some (pv 2)) (po_some (pe_op op_add (pv 2) (pv 1)))))))), ?_⟩
  obtain ⟨F, a, xs, k, rfl, hF, hS, hk0, hk, hl0, q⟩ := h
  walk_at "r"
  refine s_len (hF.seq hS) ?_
  walk_at "r"
  have en : (((xs.length : Nat) : Int) + (k : Int) - 1) / (k : Int) = (((chunk k xs).length : Nat) : Int) := by
    rw [chunk_len hk0, Int.natCast_ediv]
    congr 1
    omega
  refine ⟨_, _, _, (chunk k xs).length, rfl, ?_, ?_⟩
  · have := rgc_up (L := ((xs.length : Nat) : Int)) (k := (k : Int)) (by omega) (by omega) (by omega) (by omega)
    rw [en, Int.toNat_natCast] at this
    exact this
  have hcl : (chunk k xs).length < 100000 := by
    rw [chunk_len hk0]
    exact Nat.div_lt_of_lt_mul (by omega)
  refine lcW walk_rangeC S0 hF (fun _ z => z.elim) (fun _ _ _ => trivial) (fun i acc F1 H1 => LV F1 acc ((chunk k xs).take i)) (fun _ _ _ _ _ _ _ _ _ r => r) .nil ?_ ?_
  · rintro i x acc d F1 H1 H2 hi ⟨rfl, rfl⟩ hd nS st f0 e hl rr
    have ei : (0 : Int) + (i : Int) * (k : Int) = ((i * k : Nat) : Int) := by simp
    have ej : ((i * k : Nat) : Int) + (k : Int) = ((i * k + k : Nat) : Int) := by simp
    dsimp only; rw [ei]
    walk_at "r"
    rw [ej]
    refine s_slL ((hF.trans st.same).seq hS) fun p hp => ?_
    have s4 := Stp.new (S := S0) (o := .lst (cutV xs (some ((i * k : Nat) : Int)) (some ((i * k + k : Nat) : Int)))) st.fh hp
    refine lc_end hd nS st f0 e hl (by omega) s4 ?_
    have hg := chunk_get hk0 xs i hi
    rw [List.take_succ_eq_append_getElem hi]
    refine (rr.mono s4.ff).snoc ?_
    rw [upd_same, cutV_nat, show i * k + k - i * k = k by omega]
    rw [List.getElem?_eq_getElem hi] at hg
    rw [Option.some.inj hg]
  · intro d acc F0 F1 H1 st hd f0 ef st1 hl rr
    rw [List.take_length] at rr
    refine q d F1 H1 acc st1 (by rw [ef]; exact upd_same) (rr.mono ?_)
    rw [ef]
    exact (Stp.new (S := S0) (Same.refl F0) f0).ff
abbrev s_sum_of : Stmt := topS 28
theorem sc_sum_of : FnScope ["loads", "found", "load", "one", "other"] ["loads"] (defScope s_sum_of) := ⟨rfl, rfl, rfl, by decide +kernel, rfl, by decide +kernel, by decide +kernel⟩
def Ok_sum_of (P : Program) (w : World) (K : PySem.W.Frag) (mg : Str → Option Value) (base : Heap) : Prop := ∃ fA fd, Fn P w K mg base (L2.CX P w) 1 "sum_of" s_sum_of fA fd ["loads"] (sp_sum_of K mg)
theorem okx_sum_of (Z : Zs K mg) {fA : Addr} {fd : FuncData} (F : Fun K "sum_of" "sum_of" s_sum_of fA fd) (m : mg "sum_of" = some (.ref fA))  : Fn P w K mg base (L2.CX P w) 1 "sum_of" s_sum_of fA fd ["loads"] (sp_sum_of K mg) := by
  refine ⟨F.okX sc_sum_of (fun vs H Q E h => h.1) (fun cdv A outer s H vs Q E hr h => ?_), m, F.kp, F.binds fun _ _ _ _ _ _ us hl => match us, hl with | [_], _ => rfl, F⟩
  have hu64 := hr.units
  obtain ⟨hlen, h⟩ := h
  refine ⟨_, (pss_cons (ps_set (i := 1) sc_sum_of.nd rfl (Or.inl rfl) (pe_callTy call_list_of (by rfl) Z.z_list (by decide +kernel) (pa_cons (pe_ix (i_list K rfl) (pv 0) pe_int (fun _ _ => rfl)) pa_nil)))
    (pss_cons (ps_for (passes_of rfl) rfl (pi_list (pe_slice (l_list K rfl) (pv 0) (po_some pe_int) po_none)) (pg_name (i := 2) sc_sum_of.nd rfl (Or.inl rfl))
      (pss_one (ps_setLc (i := 1) (own := [("one", 3), ("other", 4)]) (g := gTup K 2 (gCons (gName 3) (gCons (gName 4) gNil))) (tt := tYes) (by rfl) sc_sum_of.nd rfl rfl (sw_true rfl rfl rfl (by decide +kernel)) (pi_zip (by rfl) Z.z_zip (pa_cons (pv 1) (pa_cons (pv 2) pa_nil))) (blkOk_by (own := [("one", 3), ("other", 4)]) (N := ["loads", "found", "load", "one", "other"]) (sc := defScope s_sum_of) (by decide +kernel)) (fun _ _ _ _ _ => (pg_tup rfl (pgs_cons (pg_name (i := 3) sc_sum_of.nd rfl (Or.inl rfl) (Or.inr rfl)) (pgs_cons (pg_name (i := 4) sc_sum_of.nd rfl (Or.inl rfl) (Or.inr rfl)) pgs_nil)))) (fun _ _ _ _ _ => pts_nil) (fun _ _ _ _ _ => (pe_op op_xor (pv 3) (pv 4))))))
    (pss_one (ps_ret (pv 1))))), ?_⟩
  obtain ⟨a, us, ls, rfl, hS, hR, hne, hn, hL, q⟩ := h
  obtain ⟨l0, lr, rfl⟩ : ∃ l0 lr, ls = l0 :: lr := by
    cases ls with
    | nil => exact absurd rfl hne
    | cons x y => exact ⟨x, y, rfl⟩
  obtain ⟨a0, us', rfl, h0, hr⟩ : ∃ a0 us', us = .ref a0 :: us' ∧ H a0 = some (.lst (l0.map V.int)) ∧ RL H us' lr := by
    cases hR with
    | cons h r => exact ⟨_, _, rfl, h, r⟩
  have hL0 := hL l0 (by simp)
  walk_at "r"
  refine s_ixL hS (at_of (j := 0) (by decide) rfl) ?_
  walk_at "r"
  refine ⟨a0, _, rfl, .inl (SqL.of h0), fun f hf => ?_⟩
  have e1 : Same H (upd H f (.lst (l0.map V.int))) := (Stp.new (S := S0) (Same.refl _) hf).same
  have h1 : upd H f (.lst (l0.map V.int)) f = some (.lst (l0.map V.int)) := upd_same
  generalize upd H f (.lst (l0.map V.int)) = H1 at e1 h1 ⊢
  walk_at "r"
  refine s_slL (e1.seq hS) fun p hp => ?_
  have ec : cutV (V.ref a0 :: us') (some 1) none = us' := by rw [show (some (1 : Int)) = some ((1 : Nat) : Int) from rfl, cutV_from]; rfl
  rw [ec]
  have e2 : Same H1 (upd H1 p (.lst us')) := (Stp.new (S := S0) (Same.refl _) hp).same
  have h2 : upd H1 p (.lst us') p = some (.lst us') := upd_same
  generalize upd H1 p (.lst us') = H2 at e2 h2 ⊢
  refine ⟨_, rfl, ⟨_, SqL.of h2⟩, ?_⟩
  have hr2 : RL H2 us' lr := LV.mono (e1.trans e2) hr
  refine forL (xs := us') (fun i σ H' => ∃ v q, σ = [some (.ref a), some (.ref q), v, none, none] ∧ Same H2 H' ∧ (i = 0 ∨ H q = none) ∧ H q = none ∧ H' q = some (.lst ((sumC (l0 :: lr.take i)).map V.int))) ⟨_, f, rfl, Same.refl _, .inl rfl, hf, by rw [List.take_zero, sumC_one hL0.1 hL0.2]; exact e2 _ _ h1⟩ (fun i σ H' _ ⟨_, _, _, s, _⟩ => s.seq (SqL.of h2)) ?_ ?_
  · rintro i x σ H3 hx ⟨v, q0, rfl, e3, _, hq0, hq3⟩
    obtain ⟨b, l, rfl, hl1, hb⟩ := RL.get hr2 i hx
    have hi : i < lr.length := (List.getElem?_eq_some_iff.mp hl1).1
    have hll := hL l (List.mem_cons_of_mem _ (List.mem_of_getElem? hl1))
    have et : lr.take (i + 1) = lr.take i ++ [l] := by
      rw [List.take_succ_eq_append_getElem hi]
      rw [List.getElem?_eq_getElem hi] at hl1
      rw [Option.some.inj hl1]
    obtain ⟨L1, hS1⟩ : ∃ L1, L1 = l0 :: lr.take i := ⟨_, rfl⟩
    have es : sumC (l0 :: lr.take (i + 1)) = sumC (L1 ++ [l]) := by rw [et, hS1]; rfl
    rw [← hS1] at hq3
    walk_at "r"
    refine s_iZ ?_
    walk_at "r"
    refine ⟨q0, b, _, _, rfl, SqL.of hq3, SqL.of (e3 _ _ hb), ?_⟩
    refine lcW (walk_zip (n := 48) (xs := (sumC L1).map V.int) (ys := l.map V.int) (by rw [List.length_map, List.length_map, sumC_len, hll.1]; rfl)) S0 (Same.refl H3) (fun _ z => z.elim) (fun F1 H1 st => ⟨st.same.seq (SqL.of hq3), st.same.seq (SqL.of (e3 _ _ hb))⟩) (fun j acc F1 H1 => acc = ((sumC (L1 ++ [l])).map V.int).take j) (fun _ _ _ _ _ _ _ _ _ r => r) rfl ?_ ?_
    · rintro j x acc d F1 H4 H5 hj ⟨T, x1, y1, rfl, hT, rfl, hx1, hy1⟩ hd nS st f0 e hl rr
      dsimp only at hx1 hy1
      rw [List.getElem?_map] at hx1 hy1
      have hj1 : j < (sumC L1).length := by rw [sumC_len]; exact hj
      have hj2 : j < l.length := by rw [hll.1]; exact hj
      rw [List.getElem?_eq_getElem hj1] at hx1
      rw [List.getElem?_eq_getElem hj2] at hy1
      obtain rfl := Option.some.inj hx1
      obtain rfl := Option.some.inj hy1
      have s5 := Stp.new (S := S0) (o := .tup [V.int (sumC L1)[j], V.int l[j]]) st.fh hT
      walk_at "r"
      refine lc_end hd nS st f0 e hl (by omega) s5 ?_
      have hv : Builtin.bitXor (sumC L1)[j] l[j] = ((sumC L1).getD j 0 + l.getD j 0) % 2 := by
        rw [xorB (sumC_bits L1 _ (List.getElem_mem hj1)) (hll.2 _ (List.getElem_mem hj2)), List.getD_eq_getElem?_getD, List.getD_eq_getElem?_getD, List.getElem?_eq_getElem hj1, List.getElem?_eq_getElem hj2]
        rfl
      have hsn := sumC_snoc (ls := L1) (l := l) j hj hll.1
      have hj3 : j < ((sumC (L1 ++ [l])).map V.int).length := by rw [List.length_map, sumC_len]; exact hj
      rw [rr, hv, List.take_succ_eq_append_getElem hj3]
      congr 2
      have hj4 : j < (sumC (L1 ++ [l])).length := by rw [sumC_len]; exact hj
      rw [List.getElem?_eq_getElem hj4] at hsn
      rw [List.getElem_map, Option.some.inj hsn]
    · intro d acc F0 F1 H4 st hd f0 ef st1 hl rr
      rw [ef] at st1
      refine ⟨_, d, rfl, e3.trans st.same, .inr ((e1.trans (e2.trans e3)).free hd), (e1.trans (e2.trans e3)).free hd, ?_⟩
      rw [st1.fh _ _ upd_same, rr, es, List.take_of_length_le (by rw [List.length_map, sumC_len]; exact Nat.le_refl _)]
  · rintro σ H3 ⟨v, q0, rfl, e3, _, hq0, hq3⟩
    walk_at "r"
    refine q q0 H3 (e1.trans (e2.trans e3)) hq0 ?_
    rw [hq3, RL.len hr, List.take_length]
abbrev s_cell_of : Stmt := topS 29
theorem sc_cell_of : FnScope ["load"] ["load"] (defScope s_cell_of) := ⟨rfl, rfl, rfl, by decide +kernel, rfl, by decide +kernel, by decide +kernel⟩
def Ok_cell_of (P : Program) (w : World) (K : PySem.W.Frag) (mg : Str → Option Value) (base : Heap) : Prop := ∃ fA fd, Fn P w K mg base (L2.CX P w) 3 "cell_of" s_cell_of fA fd ["load"] (sp_cell_of K mg)
theorem okx_cell_of (Z : Zs K mg) {fA : Addr} {fd : FuncData} (F : Fun K "cell_of" "cell_of" s_cell_of fA fd) (m : mg "cell_of" = some (.ref fA)) (C_check_of : Ok_check_of P w K mg base) : Fn P w K mg base (L2.CX P w) 3 "cell_of" s_cell_of fA fd ["load"] (sp_cell_of K mg) := by
  obtain ⟨_, _, C_check_of⟩ := C_check_of
  refine ⟨F.okX sc_cell_of (fun vs H Q E h => h.1) (fun cdv A outer s H vs Q E hr h => ?_), m, F.kp, F.binds fun _ _ _ _ _ _ us hl => match us, hl with | [_], _ => rfl, F⟩
  have hu64 := hr.units
  obtain ⟨hlen, h⟩ := h
  refine ⟨_, (pss_one (ps_ret (pe_op op_cat (pv 0) (pe_call C_check_of.G (hr.mono (by decide)) rfl C_check_of.m C_check_of.kp C_check_of.b .nil passL (pa_cons (pv 0) pa_nil))))), ?_⟩
  obtain ⟨a, l, rfl, ha, hb, hl, q⟩ := h
  walk_at "r"
  refine ⟨rfl, a, l, rfl, SqL.of ha, hb, fun p H1 e1 p0 hp => ?_⟩
  refine ⟨_, _, _, _, rfl, rfl, e1 _ _ ha, hp, sz (by simp [fixL_len]; omega), fun c hc => ?_⟩
  refine q c _ (e1.trans (Stp.new (S := S0) (Same.refl _) hc).same) (e1.free hc) ?_
  rw [upd_same]; simp [cellC]
abbrev s_protect : Stmt := topS 30
theorem sc_protect : FnScope ["bits", "group", "told", "found", "loads", "load"] ["bits", "group"] (defScope s_protect) := ⟨rfl, rfl, rfl, by decide +kernel, rfl, by decide +kernel, by decide +kernel⟩
def Ok_protect (P : Program) (w : World) (K : PySem.W.Frag) (mg : Str → Option Value) (base : Heap) : Prop := ∃ fA fd, Fn P w K mg base (L2.CX P w) 4 "protect" s_protect fA fd ["bits", "group"] (sp_protect K mg)
theorem okx_protect (Z : Zs K mg) {fA : Addr} {fd : FuncData} (F : Fun K "protect" "protect" s_protect fA fd) (m : mg "protect" = some (.ref fA)) (C_cut_up : Ok_cut_up P w K mg base) (C_sum_of : Ok_sum_of P w K mg base) (C_cell_of : Ok_cell_of P w K mg base) (C_count_bits : Ok_count_bits P w K mg base) (C_want_group : Ok_want_group P w K mg base) (C_check_bits : Ok_check_bits P w K mg base) : Fn P w K mg base (L2.CX P w) 4 "protect" s_protect fA fd ["bits", "group"] (sp_protect K mg) := by
  obtain ⟨_, _, C_cut_up⟩ := C_cut_up
  obtain ⟨_, _, C_sum_of⟩ := C_sum_of
  obtain ⟨_, _, C_cell_of⟩ := C_cell_of
  obtain ⟨_, _, C_count_bits⟩ := C_count_bits
  obtain ⟨_, _, C_want_group⟩ := C_want_group
  obtain ⟨_, _, C_check_bits⟩ := C_check_bits
  refine ⟨F.okX sc_protect (fun vs H Q E h => h.1) (fun cdv A outer s H vs Q E hr h => ?_), m, F.kp, F.binds fun _ _ _ _ _ _ us hl => match us, hl with | [_, _], _ => rfl, F⟩
  have hu64 := hr.units
  obtain ⟨hlen, h⟩ := h
  refine ⟨_, (pss_cons (ps_expr (pe_call C_check_bits.G (hr.mono (by decide)) rfl C_check_bits.m C_check_bits.kp C_check_bits.b .nil (passes_call (takes_of rfl rfl rfl rfl) (fun _ _ _ _ h => h)) (pa_cons (pv 0) pa_nil)))
    (pss_cons (ps_if (pt_cmpR op_gt (pe_callB (c_len K rfl) (by rfl) Z.z_len (by decide +kernel) (pa_cons (pv 0) pa_nil)) (pe_glob (v := .int (1000000)) rfl Z.c_MOST_BITS ⟨_, rfl⟩) (nomark _))
      (pss_one (ps_raise rfl (takes_of rfl rfl rfl rfl) (pmk_own0 PySem.F.excBase_ValueError Z.x_Great.x Z.x_Great.g Z.x_Great.k (raises_own Z.x_Great.b Z.x_Great.t) rfl)))
      pss_nil)
    (pss_cons (ps_expr (pe_call C_want_group.G (hr.mono (by decide)) rfl C_want_group.m C_want_group.kp C_want_group.b .nil (passes_call (takes_of rfl rfl rfl rfl) (fun _ _ _ _ h => h)) (pa_cons (pv 1) pa_nil)))
    (pss_cons (ps_set (i := 2) sc_protect.nd rfl (Or.inl rfl) (pe_op op_cat (pe_call C_count_bits.G (hr.mono (by decide)) rfl C_count_bits.m C_count_bits.kp C_count_bits.b .nil passL (pa_cons (pe_callB (c_len K rfl) (by rfl) Z.z_len (by decide +kernel) (pa_cons (pv 0) pa_nil)) pa_nil)) (pv 0)))
    (pss_cons (ps_set (i := 2) sc_protect.nd rfl (Or.inl rfl) (pe_op op_cat (pv 2) (pe_op op_rep (pe_lst (pa_cons pe_int pa_nil)) (pe_op op_mod (pe_un un_neg (pe_callB (c_len K rfl) (by rfl) Z.z_len (by decide +kernel) (pa_cons (pv 2) pa_nil))) (pe_glob (v := .int (48)) rfl Z.c_LOAD_SIZE ⟨_, rfl⟩)))))
    (pss_cons (ps_set (i := 3) sc_protect.nd rfl (Or.inl rfl) (pe_lst pa_nil))
    (pss_cons (ps_for (passes_of rfl) rfl (pi_list (pe_call C_cut_up.G (hr.mono (by decide)) rfl C_cut_up.m C_cut_up.kp C_cut_up.b .nil passL (pa_cons (pe_call C_cut_up.G (hr.mono (by decide)) rfl C_cut_up.m C_cut_up.kp C_cut_up.b .nil passL (pa_cons (pv 2) (pa_cons (pe_glob (v := .int (48)) rfl Z.c_LOAD_SIZE ⟨_, rfl⟩) pa_nil))) (pa_cons (pv 1) pa_nil)))) (pg_name (i := 4) sc_protect.nd rfl (Or.inl rfl))
      (pss_one (ps_for (passes_of rfl) rfl (pi_list (pe_op op_cat (pv 4) (pe_lst (pa_cons (pe_call C_sum_of.G (hr.mono (by decide)) rfl C_sum_of.m C_sum_of.kp C_sum_of.b .nil passL (pa_cons (pv 4) pa_nil)) pa_nil)))) (pg_name (i := 5) sc_protect.nd rfl (Or.inl rfl))
      (pss_one (ps_expr (pe_bm PySem.F.plainAttrs_list PySem.F.slot_list_extend PySem.F.type_list_extend mt_extend (pv 3) (pa_cons (pe_call C_cell_of.G (hr.mono (by decide)) rfl C_cell_of.m C_cell_of.kp C_cell_of.b .nil passL (pa_cons (pv 5) pa_nil)) pa_nil)))))))
    (pss_one (ps_ret (pv 3)))))))))), ?_⟩
  obtain ⟨a, ns, g, rfl, ha, hl, hh⟩ := h
  walk_at "r"
  refine ⟨rfl, a, ns, rfl, SqL.of ha, ?_⟩
  rcases hh with ⟨hg, q⟩ | ⟨hg, hn, q⟩ | ⟨hg, g1, g8, q⟩
  · exact .inr ⟨hg, q⟩
  · refine .inl ⟨hg, ?_⟩
    walk_at "r"
    refine ifd (fun h => absurd h (by rw [List.length_map]; omega)) (fun _ => ?_)
    walk_at "r"
    exact ⟨rfl, g, rfl, .inr ⟨hn, q⟩⟩
  · refine .inl ⟨hg, ?_⟩
    walk_at "r"
    refine ifd (fun h => absurd h (by rw [List.length_map]; omega)) (fun _ => ?_)
    walk_at "r"
    refine ⟨rfl, g, rfl, .inl ⟨g1, g8, ?_⟩⟩
    walk_at "r"
    refine ⟨rfl, _, rfl, .inl ⟨by omega, by rw [List.length_map]; omega, fun c H1 e1 c0 hc => ?_⟩⟩
    rw [List.length_map, Int.toNat_natCast] at hc
    have hcl := countL_len ns.length (by omega)
    walk_at "r"
    refine ⟨_, _, _, _, rfl, rfl, hc, e1 _ _ ha, sz (by rw [List.length_map, List.length_map]; omega), fun t ht => ?_⟩
    have et : (countL ns.length).map V.int ++ ns.map V.int = (toldC ns).map V.int := by rw [toldC, List.map_append]
    rw [et]
    have e2 : Same H1 (upd H1 t (.lst ((toldC ns).map V.int))) := (Stp.new (S := S0) (Same.refl _) ht).same
    have h2 : upd H1 t (.lst ((toldC ns).map V.int)) t = some (.lst ((toldC ns).map V.int)) := upd_same
    generalize upd H1 t (.lst ((toldC ns).map V.int)) = H2 at e2 h2 ⊢
    have htl : (toldC ns).length ≤ 1100 := by rw [toldC, List.length_append]; omega
    walk_at "r"
    refine ⟨sz (by simp), fun b hb => ?_⟩
    have e3 : Same H2 (upd H2 b (.lst [.int 0])) := (Stp.new (S := S0) (Same.refl _) hb).same
    have h3 : upd H2 b (.lst [.int 0]) b = some (.lst [.int 0]) := upd_same
    generalize upd H2 b (.lst [.int 0]) = H3 at e3 h3 ⊢
    replace h2 := e3 _ _ h2
    walk_at "r"
    refine s_rep h3 (by omega) (by omega) fun b2 hb2 => ?_
    have ek : (-((((toldC ns).map V.int).length : Nat) : Int) % 48).toNat = (48 - (toldC ns).length % 48) % 48 := by rw [List.length_map]; omega
    rw [ek]
    have e4 : Same H3 (upd H3 b2 (.lst (List.replicate ((48 - (toldC ns).length % 48) % 48) (V.int 0)))) := (Stp.new (S := S0) (Same.refl _) hb2).same
    have h4 : upd H3 b2 (.lst (List.replicate ((48 - (toldC ns).length % 48) % 48) (V.int 0))) b2 = some (.lst (List.replicate ((48 - (toldC ns).length % 48) % 48) (V.int 0))) := upd_same
    generalize upd H3 b2 (.lst (List.replicate ((48 - (toldC ns).length % 48) % 48) (V.int 0))) = H4 at e4 h4 ⊢
    replace h2 := e4 _ _ h2
    walk_at "r"
    have ep : (toldC ns).map V.int ++ List.replicate ((48 - (toldC ns).length % 48) % 48) (V.int 0) = (padC (toldC ns)).map V.int := by rw [padC, List.map_append, List.map_replicate]
    have hpl : (padC (toldC ns)).length ≤ 1200 := by rw [padC, List.length_append, List.length_replicate]; omega
    refine ⟨_, _, _, _, rfl, rfl, h2, h4, sz (by rw [List.length_map, List.length_replicate]; omega), fun t2 ht2 => ?_⟩
    rw [ep]
    have e5 : Same H4 (upd H4 t2 (.lst ((padC (toldC ns)).map V.int))) := (Stp.new (S := S0) (Same.refl _) ht2).same
    have h5 : upd H4 t2 (.lst ((padC (toldC ns)).map V.int)) t2 = some (.lst ((padC (toldC ns)).map V.int)) := upd_same
    generalize upd H4 t2 (.lst ((padC (toldC ns)).map V.int)) = H5 at e5 h5 ⊢
    walk_at "r"
    refine ⟨sz (by simp), fun f hf => ?_⟩
    have c6 := Stp.cell (S := S0) (o := .lst []) (Same.refl H5) hf
    have h6 : upd H5 f (.lst []) f = some (.lst []) := upd_same
    have e6 : Same H5 (upd H5 f (.lst [])) := c6.same
    generalize upd H5 f (.lst []) = H6 at c6 h6 e6 ⊢
    have e06 : Same H H6 := e1.trans (e2.trans (e3.trans (e4.trans (e5.trans e6))))
    have f0 : H f = none := (e1.trans (e2.trans (e3.trans (e4.trans e5)))).free hf
    walk_at "r"
    obtain ⟨gn, rfl⟩ : ∃ gn : Nat, g = gn := ⟨g.toNat, by omega⟩
    rw [Int.toNat_natCast] at q
    have gn0 : 0 < gn := by omega
    refine ⟨rfl, H5, t2, _, 48, rfl, e6, SqL.of h5, by decide, by decide, by rw [List.length_map]; omega, fun p1 F1 H7 acc1 st1 hp1 lv1 => ?_⟩
    rw [chunk_map (by decide)] at lv1
    have lds := loads_ok (all_good.mp hg) (by omega)
    have hll : (loadsC ns).length ≤ 1300 := by
      rw [loadsC, chunk_len (by decide)]
      exact Nat.le_trans (Nat.div_le_self _ _) (by omega)
    change RL F1 acc1 (loadsC ns) at lv1
    have f1n : F1 f = none := (st1.fo _ _ h6).trans hf
    have h7 : H7 f = some (.lst []) := st1.same _ _ h6
    walk_at "r"
    refine ⟨rfl, F1, p1, acc1, gn, rfl, st1.fh, SqL.of hp1, gn0, by omega, by rw [RL.len lv1]; omega, fun p2 F2 H8 acc2 st2 hp2 lv2 => ?_⟩
    have f2n : F2 f = none := (st2.fo _ _ h7).trans f1n
    have h8 : H8 f = some (.lst []) := st2.same _ _ h7
    have lv1' : RL F2 acc1 (loadsC ns) := LV.mono st2.ff lv1
    walk_at "r"
    refine ⟨p2, rfl, ⟨_, SqL.of (st2.fh _ _ hp2)⟩, ?_⟩
    have hcl2 : acc2.length = (chunk gn (loadsC ns)).length := by rw [lv2.len, chunk_len gn0, chunk_len gn0, RL.len lv1]
    have hcl3 : (chunk gn (loadsC ns)).length ≤ 1400 := by
      rw [chunk_len gn0]
      exact Nat.le_trans (Nat.div_le_self _ _) (by omega)
    refine forL (xs := acc2) (fun i σ H' => ∃ v4 v5 fd, σ = [some (.ref a), some (.int gn), some (.ref t2), some (.ref f), v4, v5] ∧ Same F2 H' ∧ Same H H' ∧ fd = (((chunk gn (loadsC ns)).take i).map grpC).flatten.flatten ∧ fd.length ≤ 504 * i ∧ H' f = some (.lst (fd.map V.int)))
      ⟨_, _, _, rfl, st2.fh, e06.trans (st1.same.trans st2.same), rfl, by simp, by rw [h8]; simp⟩ (fun i σ H' _ ⟨_, _, _, _, s, _⟩ => s.seq (SqL.of hp2)) ?_ ?_
    · rintro i x σ H9 hx ⟨v4, v5, fd, rfl, e9, e09, hfd, hfl, h9⟩
      obtain ⟨b, l, rfl, hl1, hb⟩ := LV.get i lv2 hx
      have hi : i < (chunk gn acc1).length := (List.getElem?_eq_some_iff.mp hl1).1
      have hi2 : i < (chunk gn (loadsC ns)).length := by rw [← hcl2, lv2.len]; exact hi
      rw [chunk_get gn0 _ i hi] at hl1
      obtain ⟨s, hs⟩ : ∃ s, (chunk gn (loadsC ns))[i]? = some s := ⟨_, List.getElem?_eq_getElem hi2⟩
      have hs2 := hs
      rw [chunk_get gn0 _ i hi2] at hs2
      have rl : RL F2 l s := by
        rw [← Option.some.inj hl1, ← Option.some.inj hs2]
        exact RL.take _ (RL.drop _ lv1')
      have hsm := List.mem_of_getElem? hs
      have slen : s.length ≤ gn := by rw [← Option.some.inj hs2, List.length_take]; omega
      have ldg := grp_ok gn0 lds s hsm
      have sne : s ≠ [] := fun z => by
        have hb := chunk_blk gn0 (loadsC ns)
        subst z
        have : ∀ bs : List (List (List Int)), Blk gn bs → [] ∉ bs := by
          intro bs
          induction bs with
          | nil => intro _ h; cases h
          | cons x r ih =>
            intro hk hm
            cases r with
            | nil =>
              have hk : 0 < x.length ∧ x.length ≤ gn := hk
              rw [List.mem_singleton] at hm
              rw [← hm] at hk
              exact absurd hk.1 (by simp)
            | cons y r =>
              have hk := hk.cons
              rcases List.mem_cons.mp hm with hm | hm
              · rw [← hm] at hk; exact absurd hk.1 (by simp; omega)
              · exact ih hk.2 hm
        exact this _ hb hsm
      walk_at "r"
      refine ⟨rfl, b, l, s, rfl, SqL.of (e9 _ _ hb), LV.mono e9 rl, sne, by omega, fun l hl => ldg l (List.mem_append_left _ hl), fun u H10 e10 u0 hu => ?_⟩
      walk_at "r"
      refine ⟨sz (by simp), fun w hw => ?_⟩
      have e11 : Same H10 (upd H10 w (.lst [.ref u])) := (Stp.new (S := S0) (Same.refl _) hw).same
      have h11 : upd H10 w (.lst [.ref u]) w = some (.lst [.ref u]) := upd_same
      generalize upd H10 w (.lst [.ref u]) = H11 at e11 h11 ⊢
      walk_at "r"
      have hll2 : l.length = s.length := RL.len rl
      refine ⟨_, _, _, _, rfl, rfl, (e9.trans (e10.trans e11)) _ _ hb, h11, sz (by rw [hll2, List.length_singleton]; omega), fun c2 hc2 => ?_⟩
      have e12 : Same H11 (upd H11 c2 (.lst (l ++ [.ref u]))) := (Stp.new (S := S0) (Same.refl _) hc2).same
      have h12 : upd H11 c2 (.lst (l ++ [.ref u])) c2 = some (.lst (l ++ [.ref u])) := upd_same
      have c20 : H9 c2 = none := (e10.trans e11).free hc2
      generalize upd H11 c2 (.lst (l ++ [.ref u])) = H12 at e12 h12 ⊢
      have e912 : Same H9 H12 := e10.trans (e11.trans e12)
      have fF : Same F2 (delH H12 f) := Same.del (e9.trans e912) f2n
      have fn : delH H12 f f = none := delH_none _ _
      have rlc : RL (delH H12 f) (l ++ [.ref u]) (s ++ [sumC s]) := RL.snoc (LV.mono fF rl) (delH_at ((e11.trans e12) _ _ hu) (fun z => by rw [z, h9] at u0; cases u0))
      have hc : delH H12 f c2 = some (.lst (l ++ [.ref u])) := delH_at h12 (fun z => by rw [z, h9] at c20; cases c20)
      have hF : Same (delH H12 f) H12 := delH_same _ _
      generalize delH H12 f = F3 at fF fn rlc hc hF
      refine ⟨c2, rfl, ⟨_, SqL.of h12⟩, ?_⟩
      refine forL (xs := l ++ [.ref u]) (fun j σ H' => ∃ v5 fe, σ = [some (.ref a), some (.int gn), some (.ref t2), some (.ref f), some (.ref b), v5] ∧ Same F3 H' ∧ Same H H' ∧ fe = fd ++ (((s ++ [sumC s]).take j).map cellC).flatten ∧ fe.length ≤ 504 * i + 56 * j ∧ H' f = some (.lst (fe.map V.int)))
        ⟨_, _, rfl, hF, e09.trans e912, rfl, by simpa using hfl, by rw [e912 _ _ h9]; simp⟩ (fun j σ H' _ ⟨_, _, _, s, _⟩ => s.seq (SqL.of hc)) ?_ ?_
      · rintro j x σ H13 hx ⟨v5, fe, rfl, e13, e013, hfe, hfel, h13⟩
        obtain ⟨b3, l3, rfl, hl3, hb3⟩ := RL.get rlc j hx
        have ld3 := ldg l3 (List.mem_of_getElem? hl3)
        have hj : j < (s ++ [sumC s]).length := (List.getElem?_eq_some_iff.mp hl3).1
        have hj9 : j ≤ 8 := by rw [List.length_append, List.length_singleton] at hj; omega
        have hi13 : i < 1400 := by omega
        walk_at "r"
        refine ⟨.inl ⟨rfl, _, SqL.of h13⟩, ?_⟩
        walk_at "r"
        refine ⟨rfl, b3, l3, rfl, e13 _ _ hb3, ld3.2, by rw [ld3.1]; decide, fun y H14 e14 y0 hy => ?_⟩
        walk_at "r"
        have hc56 := cellC_len ld3.1
        refine ⟨f, y, _, _, rfl, rfl, e14 _ _ h13, hy, Nat.le_trans (m := 1000000) (by rw [List.length_map, List.length_map, hc56]; omega) (by decide), ?_⟩
        have w15 := Stp.wr (S := S1 f) (o := .lst (fe.map V.int ++ (cellC l3).map V.int)) (e13.trans e14) rfl fn
        refine ⟨_, fe ++ cellC l3, rfl, w15.fh, fun b' o' h' => ?_, ?_, by rw [List.length_append, hc56]; omega, by rw [upd_same, List.map_append]⟩
        · rw [upd_ne (ne_of_none h' f0)]; exact e14 _ _ (e013 _ _ h')
        · rw [List.take_succ_eq_append_getElem hj, List.map_append, List.flatten_append, hfe, List.append_assoc]
          rw [List.getElem?_eq_getElem hj] at hl3
          rw [Option.some.inj hl3]; simp
      · rintro σ H13 ⟨v5, fe, rfl, e13, e013, hfe, hfel, h13⟩
        refine ⟨_, _, fe, rfl, fF.trans e13, e013, ?_, ?_, h13⟩
        · rw [List.take_of_length_le (by rw [List.length_append, List.length_append, hll2]; exact Nat.le_refl _)] at hfe
          rw [List.getElem?_eq_getElem hi2] at hs
          rw [List.take_succ_eq_append_getElem hi2, List.map_append, List.flatten_append, List.flatten_append, hfe, hfd, Option.some.inj hs]
          simp [grpC]
        · rw [List.length_append, hll2, List.length_singleton] at hfel
          omega
    · rintro σ H9 ⟨v4, v5, fd, rfl, e9, e09, hfd, hfl, h9⟩
      walk_at "r"
      refine q f H9 e09 f0 ?_
      rw [h9, hfd, hcl2, List.take_length]
      rfl
abbrev s_is_good : Stmt := topS 31
theorem sc_is_good : FnScope ["cell"] ["cell"] (defScope s_is_good) := ⟨rfl, rfl, rfl, by decide +kernel, rfl, by decide +kernel, by decide +kernel⟩
def Ok_is_good (P : Program) (w : World) (K : PySem.W.Frag) (mg : Str → Option Value) (base : Heap) : Prop := ∃ fA fd, Fn P w K mg base (L2.CX P w) 3 "is_good" s_is_good fA fd ["cell"] (sp_is_good K mg)
theorem okx_is_good (Z : Zs K mg) {fA : Addr} {fd : FuncData} (F : Fun K "is_good" "is_good" s_is_good fA fd) (m : mg "is_good" = some (.ref fA)) (C_check_of : Ok_check_of P w K mg base) : Fn P w K mg base (L2.CX P w) 3 "is_good" s_is_good fA fd ["cell"] (sp_is_good K mg) := by
  obtain ⟨_, _, C_check_of⟩ := C_check_of
  refine ⟨F.okX sc_is_good (fun vs H Q E h => h.1) (fun cdv A outer s H vs Q E hr h => ?_), m, F.kp, F.binds fun _ _ _ _ _ _ us hl => match us, hl with | [_], _ => rfl, F⟩
  have hu64 := hr.units
  obtain ⟨hlen, h⟩ := h
  refine ⟨_, (pss_one (ps_ret (pe_cmpR (o_eqD K rfl hu64) (pe_slice (l_list K rfl) (pv 0) (po_some (pe_glob (v := .int (48)) rfl Z.c_LOAD_SIZE ⟨_, rfl⟩)) po_none) (pe_call C_check_of.G (hr.mono (by decide)) rfl C_check_of.m C_check_of.kp C_check_of.b .nil passL (pa_cons (pe_slice (l_list K rfl) (pv 0) po_none (po_some (pe_glob (v := .int (48)) rfl Z.c_LOAD_SIZE ⟨_, rfl⟩))) pa_nil)) (nomark _)))), ?_⟩
  obtain ⟨a, c, rfl, hS, hb, q⟩ := h
  walk_at "r"
  refine s_slL hS fun p hp => ?_
  have s1 := Stp.new (S := S0) (o := .lst (cutV (c.map V.int) (some 48) none)) (Same.refl H) hp
  walk_at "r"
  refine s_slL (s1.same.seq hS) fun p2 hp2 => ?_
  have s2 := Stp.new (S := S0) (o := .lst (cutV (c.map V.int) none (some 48))) s1.fh hp2
  have e1 : cutV (c.map V.int) (some 48) none = (c.drop 48).map V.int := by rw [show (some (48 : Int)) = some ((48 : Nat) : Int) from rfl, cutV_from, List.map_drop]
  have e2 : cutV (c.map V.int) none (some 48) = (c.take 48).map V.int := by rw [show (some (48 : Int)) = some ((48 : Nat) : Int) from rfl, cutV_to, List.map_take]
  walk_at "r"
  refine ⟨rfl, p2, c.take 48, rfl, SqL.of (by rw [upd_same, e2]), fun b hb2 => hb b (List.mem_of_mem_take hb2), fun p3 H3 s3 hp3 h3 => ?_⟩
  have hh := (s1.trans s2).same.trans s3
  refine s_eqL (ns := c.drop 48) (ms := fixL 8 (chk (c.take 48))) (SqL.of (s3 _ _ (s2.same _ _ ?_))) (SqL.of h3) (q H3 hh)
  rw [upd_same, e1]
abbrev s_cells_of : Stmt := topS 32
theorem sc_cells_of : FnScope ["protected", "group", "many", "rest"] ["protected", "group"] (defScope s_cells_of) := ⟨rfl, rfl, rfl, by decide +kernel, rfl, by decide +kernel, by decide +kernel⟩
def Ok_cells_of (P : Program) (w : World) (K : PySem.W.Frag) (mg : Str → Option Value) (base : Heap) : Prop := ∃ fA fd, Fn P w K mg base (L2.CX P w) 3 "cells_of" s_cells_of fA fd ["protected", "group"] (sp_cells_of K mg)
theorem okx_cells_of (Z : Zs K mg) {fA : Addr} {fd : FuncData} (F : Fun K "cells_of" "cells_of" s_cells_of fA fd) (m : mg "cells_of" = some (.ref fA)) (C_cut_up : Ok_cut_up P w K mg base) (C_want_group : Ok_want_group P w K mg base) (C_check_bits : Ok_check_bits P w K mg base) : Fn P w K mg base (L2.CX P w) 3 "cells_of" s_cells_of fA fd ["protected", "group"] (sp_cells_of K mg) := by
  obtain ⟨_, _, C_cut_up⟩ := C_cut_up
  obtain ⟨_, _, C_want_group⟩ := C_want_group
  obtain ⟨_, _, C_check_bits⟩ := C_check_bits
  refine ⟨F.okX sc_cells_of (fun vs H Q E h => h.1) (fun cdv A outer s H vs Q E hr h => ?_), m, F.kp, F.binds fun _ _ _ _ _ _ us hl => match us, hl with | [_, _], _ => rfl, F⟩
  have hu64 := hr.units
  obtain ⟨hlen, h⟩ := h
  refine ⟨_, (pss_cons (ps_expr (pe_call C_check_bits.G (hr.mono (by decide)) rfl C_check_bits.m C_check_bits.kp C_check_bits.b .nil (passes_call (takes_of rfl rfl rfl rfl) (fun _ _ _ _ h => h)) (pa_cons (pv 0) pa_nil)))
    (pss_cons (ps_expr (pe_call C_want_group.G (hr.mono (by decide)) rfl C_want_group.m C_want_group.kp C_want_group.b .nil (passes_call (takes_of rfl rfl rfl rfl) (fun _ _ _ _ h => h)) (pa_cons (pv 1) pa_nil)))
    (pss_cons (ps_asg (pe_callB c_divmod (by rfl) Z.z_divmod (by decide +kernel) (pa_cons (pe_callB (c_len K rfl) (by rfl) Z.z_len (by decide +kernel) (pa_cons (pv 0) pa_nil)) (pa_cons (pe_glob (v := .int (56)) rfl Z.c_CELL_SIZE ⟨_, rfl⟩) pa_nil))) (pg_tup rfl (pgs_cons (pg_name (i := 2) sc_cells_of.nd rfl (Or.inl rfl)) (pgs_cons (pg_name (i := 3) sc_cells_of.nd rfl (Or.inl rfl)) pgs_nil))))
    (pss_cons (ps_if (PW.pt (pw_or (pt_cmpR op_ne (pv 3) pe_int (nomark _)) (pw_or (pt_cmpR op_eq (pv 2) pe_int (nomark _)) (pw_or1 (pt_cmpR op_eq (pe_op op_mod (pv 2) (pe_op op_add (pv 1) pe_int)) pe_int (nomark _))))))
      (pss_one (ps_raise rfl (takes_of rfl rfl rfl rfl) (pmk_own0 PySem.F.excBase_ValueError Z.x_BadCells.x Z.x_BadCells.g Z.x_BadCells.k (raises_own Z.x_BadCells.b Z.x_BadCells.t) rfl)))
      pss_nil)
    (pss_one (ps_ret (pe_call C_cut_up.G (hr.mono (by decide)) rfl C_cut_up.m C_cut_up.kp C_cut_up.b .nil passL (pa_cons (pv 0) (pa_cons (pe_glob (v := .int (56)) rfl Z.c_CELL_SIZE ⟨_, rfl⟩) pa_nil))))))))), ?_⟩
  obtain ⟨F, a, ns, g, rfl, hF, hS, hlen, hh⟩ := h
  walk_at "r"
  refine ⟨rfl, a, ns, rfl, hF.seq hS, ?_⟩
  rcases hh with ⟨hg, q⟩ | ⟨hg, hn, q⟩ | hh
  · exact .inr ⟨hg, q⟩
  · refine .inl ⟨hg, ?_⟩
    walk_at "r"
    exact ⟨rfl, g, rfl, .inr ⟨hn, q⟩⟩
  obtain ⟨hg, g1, hz⟩ : ns.all goodI = true ∧ (1 ≤ g ∧ g ≤ 8) ∧ ((¬ sizeOk g.toNat ns.length ∧ ∀ H', Same H H' → E (.ref (exA mg "BadCells")) none H') ∨ (sizeOk g.toNat ns.length ∧ ∀ p F' H' acc, Stp S0 F H F' H' → F' p = some (.lst acc) → RL F' acc (chunk 56 ns) → Q (.ref p) H')) := by
    rcases hh with ⟨a, b, c⟩ | ⟨a, b, c⟩
    · exact ⟨a, b, .inl c⟩
    · exact ⟨a, b, .inr c⟩
  obtain ⟨gn, rfl⟩ : ∃ gn : Nat, g = gn := ⟨g.toNat, by omega⟩
  rw [Int.toNat_natCast] at hz
  refine .inl ⟨hg, ?_⟩
  walk_at "r"
  refine ⟨rfl, _, rfl, .inl ⟨g1.1, g1.2, ?_⟩⟩
  walk_at "r"
  refine s_len (hF.seq hS) ?_
  walk_at "r"
  refine ⟨_, _, rfl, ⟨by decide, by decide⟩, fun t ht => ?_⟩
  rw [List.length_map]
  have e1 : Same H (upd H t (.tup [.int ((ns.length : Int) / 56), .int ((ns.length : Int) % 56)])) := (Stp.new (S := S0) (Same.refl H) ht).same
  have h1 : upd H t (.tup [.int ((ns.length : Int) / 56), .int ((ns.length : Int) % 56)]) t = some (.tup [.int ((ns.length : Int) / 56), .int ((ns.length : Int) % 56)]) := upd_same
  generalize upd H t (.tup [.int ((ns.length : Int) / 56), .int ((ns.length : Int) % 56)]) = H1 at e1 h1 ⊢
  walk_at "r"
  refine ifn (fun z0 => ?_) (fun z0 => ?_)
  · walk_at "r"
    refine ifd (fun z1 => ?_) (fun z1 => ?_)
    · walk_at "r"
      rcases hz with ⟨_, q⟩ | ⟨⟨_, z, _⟩, _⟩
      · exact q H1 e1
      · omega
    walk_at "r"
    refine ifd (fun z2 => ?_) (fun z2 => ?_)
    · walk_at "r"
      rcases hz with ⟨_, q⟩ | ⟨⟨_, _, z⟩, _⟩
      · exact q H1 e1
      · exact absurd (by exact_mod_cast z2) z
    walk_at "r"
    rcases hz with ⟨z, _⟩ | ⟨_, q⟩
    · refine absurd ⟨by omega, by omega, fun w => z2 (by exact_mod_cast w)⟩ z
    refine ⟨rfl, F, a, ns.map V.int, 56, rfl, hF.trans e1, hS, by decide, by decide, by rw [List.length_map]; omega, fun p F' H' acc st hp lv => ?_⟩
    rw [chunk_map (by decide)] at lv
    exact q p F' H' acc ((Stp.ofSame hF e1).trans st) hp lv
  · walk_at "r"
    rcases hz with ⟨_, q⟩ | ⟨⟨z, _, _⟩, _⟩
    · exact q H1 e1
    · omega
abbrev s_good : Stmt := topS 33
theorem sc_good : FnScope ["protected", "group", "cell"] ["protected", "group"] (defScope s_good) := ⟨rfl, rfl, rfl, by decide +kernel, rfl, by decide +kernel, by decide +kernel⟩
def Ok_good (P : Program) (w : World) (K : PySem.W.Frag) (mg : Str → Option Value) (base : Heap) : Prop := ∃ fA fd, Fn P w K mg base (L2.CX P w) 4 "good" s_good fA fd ["protected", "group"] (sp_good K mg)
theorem okx_good (Z : Zs K mg) {fA : Addr} {fd : FuncData} (F : Fun K "good" "good" s_good fA fd) (m : mg "good" = some (.ref fA)) (C_cells_of : Ok_cells_of P w K mg base) (C_is_good : Ok_is_good P w K mg base) : Fn P w K mg base (L2.CX P w) 4 "good" s_good fA fd ["protected", "group"] (sp_good K mg) := by
  obtain ⟨_, _, C_cells_of⟩ := C_cells_of
  obtain ⟨_, _, C_is_good⟩ := C_is_good
  refine ⟨F.okX sc_good (fun vs H Q E h => h.1) (fun cdv A outer s H vs Q E hr h => ?_), m, F.kp, F.binds fun _ _ _ _ _ _ us hl => match us, hl with | [_, _], _ => rfl, F⟩
  have hu64 := hr.units
  obtain ⟨hlen, h⟩ := h
  refine ⟨_, (pss_one (ps_ret (pe_lc (own := [("cell", 2)]) (g := gName 2) (tt := tYes) (by rfl) sc_good.nd (pi_list (pe_call C_cells_of.G (hr.mono (by decide)) rfl C_cells_of.m C_cells_of.kp C_cells_of.b .nil (passes_call (takes_of rfl rfl rfl rfl) (fun _ _ _ _ h => h)) (pa_cons (pv 0) (pa_cons (pv 1) pa_nil)))) (blkOk_by (own := [("cell", 2)]) (N := ["protected", "group", "cell"]) (sc := defScope s_good) (by decide +kernel)) (fun _ _ _ _ _ => (pg_name (i := 2) sc_good.nd rfl (Or.inl rfl))) (fun _ _ _ _ _ => pts_nil) (fun _ _ _ _ _ => (pe_call C_is_good.G (hr.mono (by decide)) rfl C_is_good.m C_is_good.kp C_is_good.b .nil passL (pa_cons (pv 2) pa_nil)))))), ?_⟩
  obtain ⟨a, ns, g, rfl, hS, hlen, hh⟩ := h
  walk_at "r"
  refine ⟨rfl, H, a, ns, g, rfl, Same.refl H, hS, hlen, ?_⟩
  rcases hh with h | h | h | ⟨hg, g1, hz, q⟩
  · exact .inl h
  · exact .inr (.inl h)
  · exact .inr (.inr (.inl h))
  refine .inr (.inr (.inr ⟨hg, g1, hz, fun p F1 H1 acc st hp rl => ?_⟩))
  have hb := all_good.mp hg
  refine ⟨p, rfl, ⟨_, SqL.of (st.fh _ _ hp)⟩, ?_⟩
  have hal := RL.len rl
  have hcl : (chunk 56 ns).length < 90000 := by
    rw [chunk_len (by decide)]
    exact Nat.lt_of_le_of_lt (Nat.div_le_self _ _) (by omega)
  refine lcW (walk_list (xs := acc)) S0 st.fh (fun _ z => z.elim) (fun F2 H2 s2 => s2.same.seq (SqL.of (st.fh _ _ hp))) (fun i acc2 F2 H2 => acc2 = (((chunk 56 ns).take i).map goodL).map V.bl) (fun _ _ _ _ _ _ _ _ _ r => r) rfl ?_ ?_
  · rintro i x acc2 d F2 H2 H3 hi ⟨rfl, hx⟩ hd nS st2 f0 e hl rr
    obtain ⟨b, c, rfl, hc, hb1⟩ := RL.get rl i hx
    have hic : i < (chunk 56 ns).length := (List.getElem?_eq_some_iff.mp hc).1
    walk_at "r"
    refine ⟨rfl, b, c, rfl, SqL.of ((st.fh.trans st2.same) _ _ hb1), fun z hz => hb z (chunk_mem (by decide) (List.mem_of_getElem? hc) hz), fun H4 e4 => ?_⟩
    refine lc_end hd nS st2 f0 e hl (by omega) (.ofSame st2.fh e4) ?_
    rw [List.getElem?_eq_getElem hic] at hc
    rw [rr, List.take_succ_eq_append_getElem hic, Option.some.inj hc]; simp
  · intro d acc2 F2 F3 H3 st2 hd f0 ef st3 hl rr
    have hd3 : H3 d = some (.lst acc2) := by rw [ef] at st3; exact st3.fh _ _ upd_same
    refine q d H3 (st.same.trans st2.same) (st.same.free hd) ?_
    rw [hd3, rr, hal, List.take_length]
abbrev s_opened_group : Stmt := topS 34
theorem sc_opened_group : FnScope ["cells", "loads", "bad", "number", "others", "cell", "at", "load"] ["cells"] (defScope s_opened_group) := ⟨rfl, rfl, rfl, by decide +kernel, rfl, by decide +kernel, by decide +kernel⟩
def Ok_opened_group (P : Program) (w : World) (K : PySem.W.Frag) (mg : Str → Option Value) (base : Heap) : Prop := ∃ fA fd, Fn P w K mg base (L2.CX P w) 4 "opened_group" s_opened_group fA fd ["cells"] (sp_opened_group K mg)
theorem okx_opened_group (Z : Zs K mg) {fA : Addr} {fd : FuncData} (F : Fun K "opened_group" "opened_group" s_opened_group fA fd) (m : mg "opened_group" = some (.ref fA)) (C_sum_of : Ok_sum_of P w K mg base) (C_is_good : Ok_is_good P w K mg base) : Fn P w K mg base (L2.CX P w) 4 "opened_group" s_opened_group fA fd ["cells"] (sp_opened_group K mg) := by
  obtain ⟨_, _, C_sum_of⟩ := C_sum_of
  obtain ⟨_, _, C_is_good⟩ := C_is_good
  refine ⟨F.okX sc_opened_group (fun vs H Q E h => h.1) (fun cdv A outer s H vs Q E hr h => ?_), m, F.kp, F.binds fun _ _ _ _ _ _ us hl => match us, hl with | [_], _ => rfl, F⟩
  have hu64 := hr.units
  obtain ⟨hlen, h⟩ := h
  refine ⟨_, (pss_cons (ps_setLc (i := 1) (own := [("cell", 5)]) (g := gName 5) (tt := tYes) (by rfl) sc_opened_group.nd rfl rfl (sw_true rfl rfl rfl (by decide +kernel)) (pi_list (pv 0)) (blkOk_by (own := [("cell", 5)]) (N := ["cells", "loads", "bad", "number", "others", "cell", "at", "load"]) (sc := defScope s_opened_group) (by decide +kernel)) (fun _ _ _ _ _ => (pg_name (i := 5) sc_opened_group.nd rfl (Or.inl rfl))) (fun _ _ _ _ _ => pts_nil) (fun _ _ _ _ _ => (pe_slice (l_list K rfl) (pv 5) po_none (po_some (pe_glob (v := .int (48)) rfl Z.c_LOAD_SIZE ⟨_, rfl⟩)))))
    (pss_cons (ps_setLc (i := 2) (own := [("number", 3), ("cell", 5)]) (g := gTup K 2 (gCons (gName 3) (gCons (gName 5) gNil))) (tt := _) (by rfl) sc_opened_group.nd rfl rfl (sw_true rfl rfl rfl (by decide +kernel)) (pi_enum (by rfl) Z.z_enumerate (pa_cons (pv 0) pa_nil)) (blkOk_by (own := [("number", 3), ("cell", 5)]) (N := ["cells", "loads", "bad", "number", "others", "cell", "at", "load"]) (sc := defScope s_opened_group) (by decide +kernel)) (fun _ _ _ _ _ => (pg_tup rfl (pgs_cons (pg_name (i := 3) sc_opened_group.nd rfl (Or.inl rfl) (Or.inr rfl)) (pgs_cons (pg_name (i := 5) sc_opened_group.nd rfl (Or.inl rfl) (Or.inr rfl)) pgs_nil)))) (fun _ _ _ _ _ => pts_one (pt_not (pt_val (pe_call C_is_good.G (hr.mono (by decide)) rfl C_is_good.m C_is_good.kp C_is_good.b .nil passL (pa_cons (pv 5) pa_nil))))) (fun _ _ _ _ _ => (pv 3)))
    (pss_cons (ps_for (passes_of rfl) rfl (pi_list (pv 2)) (pg_name (i := 3) sc_opened_group.nd rfl (Or.inr rfl))
      (pss_cons (ps_setLc (i := 4) (own := [("at", 6), ("load", 7)]) (g := gTup K 2 (gCons (gName 6) (gCons (gName 7) gNil))) (tt := _) (by rfl) sc_opened_group.nd rfl rfl (sw_true rfl rfl rfl (by decide +kernel)) (pi_enum (by rfl) Z.z_enumerate (pa_cons (pv 1) pa_nil)) (blkOk_by (own := [("at", 6), ("load", 7)]) (N := ["cells", "loads", "bad", "number", "others", "cell", "at", "load"]) (sc := defScope s_opened_group) (by decide +kernel)) (fun _ _ _ _ _ => (pg_tup rfl (pgs_cons (pg_name (i := 6) sc_opened_group.nd rfl (Or.inl rfl) (Or.inr rfl)) (pgs_cons (pg_name (i := 7) sc_opened_group.nd rfl (Or.inl rfl) (Or.inr rfl)) pgs_nil)))) (fun _ _ _ _ _ => pts_one (pt_cmpR op_ne (pv 6) (pv 3) (nomark _))) (fun _ _ _ _ _ => (pv 7)))
    (pss_one (ps_asg (pe_ifExp (pt_cmpR op_eq (pe_callB (c_len K rfl) (by rfl) Z.z_len (by decide +kernel) (pa_cons (pv 2) pa_nil)) pe_int (nomark _)) (pe_call C_sum_of.G (hr.mono (by decide)) rfl C_sum_of.m C_sum_of.kp C_sum_of.b .nil passL (pa_cons (pv 4) pa_nil)) pe_non) (pg_sub (pv 1) (pv 3) set_list)))))
    (pss_one (ps_ret (pe_slice (l_list K rfl) (pv 1) po_none (po_some (pe_un un_neg pe_int)))))))), ?_⟩
  obtain ⟨F, a, us, cs, rfl, hF, hS, hR, hn2, hn9, hC, q⟩ := h
  walk_at "r"
  have hul : us.length = cs.length := RL.len hR
  refine ⟨a, rfl, ⟨_, hF.seq hS⟩, ?_⟩
  refine lcW (walk_list (xs := us)) S0 hF (fun _ z => z.elim) (fun F1 H1 st => st.same.seq (hF.seq hS)) (fun (i : Nat) (acc : List V) (F1 _ : Hp) => RL F1 acc ((cs.map (fun c : List Int => c.take 48)).take i)) (fun _ _ _ _ _ _ _ _ _ r => r) .nil ?_ ?_
  · rintro i x acc d F1 H1 H2 hi ⟨rfl, hx⟩ hd nS st f0 e hl rr
    obtain ⟨b, c, rfl, hc, hb⟩ := RL.get hR i hx
    have his : i < cs.length := by omega
    walk_at "r"
    refine s_slL (SqL.of ((hF.trans st.same) _ _ hb)) fun p hp => ?_
    have ec : cutV (c.map V.int) none (some 48) = (c.take 48).map V.int := by rw [show (some (48 : Int)) = some ((48 : Nat) : Int) from rfl, cutV_to, List.map_take]
    rw [ec]
    have s4 := Stp.new (S := S0) (o := .lst ((c.take 48).map V.int)) st.fh hp
    refine lc_end hd nS st f0 e hl (by omega) s4 ?_
    have his2 : i < (cs.map (·.take 48)).length := by rw [List.length_map]; exact his
    rw [List.take_succ_eq_append_getElem his2, List.getElem_map]
    rw [List.getElem?_eq_getElem his] at hc
    rw [Option.some.inj hc]
    exact RL.snoc (LV.mono s4.ff rr) upd_same
  · intro d acc F0 F1 H1 st hd f0 ef st1 hl rr
    have hd1 : H1 d = some (.lst acc) := by rw [ef] at st1; exact st1.fh _ _ upd_same
    rw [List.take_of_length_le (by rw [List.length_map, hul]; exact Nat.le_refl _)] at rr
    clear st1 ef F1 hl
    walk_at "r"
    refine s_iE ?_
    walk_at "r"
    refine ⟨a, us, rfl, st.fh.seq (st.ff.seq hS), ?_⟩
    refine lcW (walk_enum (xs := us)) S0 st.fh (fun _ z => z.elim) (fun F2 H2 st2 => st2.same.seq (st.fh.seq (st.ff.seq hS))) (fun i acc F2 H2 => acc = (((List.range i).filter fun i => !goodL (cs.getD i [])).map (Int.ofNat)).map V.int) (fun _ _ _ _ _ _ _ _ _ r => r) rfl ?_ ?_
    · rintro i x acc2 d2 F2 H2 H3 hi ⟨T, x1, y1, rfl, hT, rfl, hx1, hy1⟩ hd2 nS st2 f2 e hl2 rr2
      obtain ⟨b, c, rfl, hc, hb⟩ := RL.get hR i hy1
      have his : i < cs.length := by omega
      have hcm := hC c (List.mem_of_getElem? hc)
      have e3 : Same H2 (upd H2 T (.tup [x1, V.ref b])) := (Stp.new (S := S0) (Same.refl _) hT).same
      walk_at "r"
      refine ⟨rfl, b, c, rfl, SqL.of (e3 _ _ ((st.fh.trans st2.same) _ _ (st.ff _ _ hb))), hcm.2, fun H4 e4 => ?_⟩
      have egd : cs.getD i [] = c := by rw [List.getD_eq_getElem?_getD, hc]; rfl
      cases gg : goodL c with
      | true =>
        walk_at "r"
        refine lc_skip hd2 nS st2 f2 e hl2 (.ofSame st2.fh (e3.trans e4)) ?_
        rw [rr2, List.range_succ, List.filter_append, List.filter_cons, egd, gg]; simp
      | false =>
        walk_at "r"
        refine lc_end hd2 nS st2 f2 e hl2 (by omega) (.ofSame st2.fh (e3.trans e4)) ?_
        rw [rr2, List.range_succ, List.filter_append, List.filter_cons, egd, gg, ← Option.some.inj hx1]; simp
    · intro d2 acc2 F2 F3 H3 st2 hd2 f2 ef2 st3 hl2 rr2
      rw [hul] at rr2
      have ebad : acc2 = ((badI cs).map Int.ofNat).map V.int := rr2
      have hd3 : F3 d2 = some (.lst acc2) := by rw [ef2]; exact upd_same
      have stF := st.trans st3
      have dF : F3 d = none := (st3.fo _ _ hd1).trans f0
      have hdd := st3.same _ _ hd1
      have rl0 : RL F3 acc (cs.map (·.take 48)) := LV.mono st3.ff rr
      have hblen : acc2.length = (badI cs).length := by rw [ebad]; simp
      clear ef2 f2 st2 rr2 F2
      walk_at "r"
      refine ⟨d2, rfl, ⟨_, SqL.of (st3.fh _ _ hd3)⟩, ?_⟩
      refine forL (xs := acc2) (fun i σ H' => ∃ v3 v4 Fi accV, σ = [some (.ref a), some (.ref d), some (.ref d2), v3, v4, none, none, none] ∧ Stp S0 F H Fi H' ∧ Same F3 Fi ∧ Fi d = none ∧ H' d = some (.lst accV) ∧ LO Fi accV (stO cs i) ∧ (i = 0 → accV = acc)) ⟨_, _, F3, acc, rfl, stF, Same.refl _, dF, hdd, by
          have := LO.ofRL rl0
          rw [List.map_map] at this
          rw [stO_zero]; exact this, fun _ => rfl⟩ (fun i σ H' _ ⟨_, _, _, _, _, s, s', _⟩ => SqL.of (s.fh _ _ (s' _ _ hd3))) ?_ ?_
      · rintro i x σ H4 hx ⟨v3, v4, Fi, accV, rfl, s4, e34, fd, hd4, lo, h0⟩
        have hib : i < (badI cs).length := by
          have := (List.getElem?_eq_some_iff.mp hx).1
          omega
        obtain ⟨k, hk⟩ : ∃ k, (badI cs)[i] = k := ⟨_, rfl⟩
        have hkm : k ∈ badI cs := hk ▸ List.getElem_mem hib
        have hkc := badI_lt hkm
        have hxk : x = .int (k : Int) := by
          rw [ebad, List.getElem?_map, List.getElem?_map, List.getElem?_eq_getElem hib, hk] at hx
          exact (Option.some.inj hx).symm
        subst hxk
        have hal : accV.length = cs.length := by rw [lo.len, stO_len]
        walk_at "r"
        refine s_iE ?_
        walk_at "r"
        refine ⟨d, accV, rfl, SqL.of hd4, ?_⟩
        refine lcW (walk_enum (xs := accV)) S0 s4.fh (fun _ z => z.elim) (fun F2 H2 st2 => SqL.of (st2.same _ _ hd4)) (fun j acc5 F2 H2 => acc5 = (accV.take j).eraseIdx k) (fun _ _ _ _ _ _ _ _ _ r => r) (by simp) ?_ ?_
        · rintro j x acc5 d5 F5 H5 H6 hj ⟨T, x1, y1, rfl, hT, rfl, hx1, hy1⟩ hd5 nS st5 f5 e5 hl5 rr5
          have e6 : Same H5 (upd H5 T (.tup [x1, y1])) := (Stp.new (S := S0) (Same.refl _) hT).same
          obtain rfl := Option.some.inj hx1
          dsimp only at hy1
          have etk : accV.take (j + 1) = accV.take j ++ [y1] := by
            have hj' : j < accV.length := hj
            rw [List.take_succ_eq_append_getElem hj']
            rw [List.getElem?_eq_getElem hj'] at hy1
            rw [Option.some.inj hy1]
          have hjl : (accV.take j).length = j := by rw [List.length_take]; omega
          walk_at "r"
          refine ifn (fun z => ?_) (fun z => ?_)
          · have z' : j = k := by exact_mod_cast z
            refine lc_skip hd5 nS st5 f5 e5 hl5 (.ofSame st5.fh e6) ?_
            rw [rr5, etk, List.eraseIdx_of_length_le (by omega), List.eraseIdx_append_of_length_le (by omega), hjl, z', Nat.sub_self]
            simp
          · have z' : j ≠ k := fun w => z (by exact_mod_cast w)
            walk_at "r"
            refine lc_end hd5 nS st5 f5 e5 hl5 (by omega) (.ofSame st5.fh e6) ?_
            rw [rr5, etk]
            by_cases w : j < k
            · rw [List.eraseIdx_of_length_le (by omega), List.eraseIdx_of_length_le (by rw [List.length_append, hjl, List.length_singleton]; omega)]
            · rw [List.eraseIdx_append_of_lt_length (by omega)]
        · intro d5 acc5 F5 F6 H6 st5 hd5 f5 ef5 st6 hl5 rr5
          rw [List.take_length] at rr5
          have h6 : H6 d5 = some (.lst acc5) := by rw [ef5] at st6; exact st6.fh _ _ upd_same
          have e46 := st5.same
          have hd6 := e46 _ _ hd4
          have hd23 : H6 d2 = some (.lst acc2) := e46 _ _ (s4.fh _ _ (e34 _ _ hd3))
          have s46 : Stp S0 F H Fi H6 := s4.trans (.ofSame s4.fh e46)
          walk_at "r"
          rw [hblen]
          refine ifd (fun z => ?_) (fun z => ?_)
          · have z' : (badI cs).length = 1 := by exact_mod_cast z
            have hi0 : i = 0 := by omega
            have hacc := h0 hi0
            subst hacc
            have rlE : RL H6 acc5 ((cs.map (·.take 48)).eraseIdx k) := by rw [rr5]; exact RL.erase k (LV.mono (e34.trans s46.fh) rl0)
            have hel : ((cs.map (·.take 48)).eraseIdx k).length = cs.length - 1 := by rw [List.length_eraseIdx, List.length_map, if_pos hkc]
            walk_at "r"
            refine ⟨rfl, d5, acc5, _, rfl, SqL.of h6, rlE, fun w => by rw [w] at hel; simp at hel; omega, by omega, fun l hl => ?_, fun y H7 e7 y0 hy => ?_⟩
            · obtain ⟨c, hc, rfl⟩ := List.mem_map.mp (List.mem_of_mem_eraseIdx hl)
              have := hC c hc
              exact ⟨by rw [List.length_take]; omega, fun w hw => this.2 w (List.mem_of_mem_take hw)⟩
            have hyd : y ≠ d := fun w => by rw [w, hd6] at y0; cases y0
            have s7 := Stp.got (S := S0) s46.fh e7 y0 hy
            have hd7 := e7 _ _ hd6
            walk_at "r"
            refine s_setL hd7 (ixN_of (by omega)) ?_
            have s8 := (s46.trans s7).wrNew (o := .lst (accV.set k (.ref y))) hd (by rw [upd_ne hyd.symm]; exact fd)
            refine ⟨_, _, _, _, rfl, s8, e34.trans s7.ff, by rw [upd_ne hyd.symm]; exact fd, upd_same, ?_, fun w => by omega⟩
            rw [stO_succ hib, hk]
            unfold fillO
            rw [if_pos z']
            exact (LO.mono s7.ff lo).setS upd_same k
          · have z' : ¬ (badI cs).length = 1 := fun w => z (by exact_mod_cast w)
            walk_at "r"
            refine s_setL hd6 (ixN_of (by omega)) ?_
            have s8 := s46.wrNew (o := .lst (accV.set k .non)) hd fd
            refine ⟨_, _, _, _, rfl, s8, e34, fd, upd_same, ?_, fun w => by omega⟩
            rw [stO_succ hib, hk]
            unfold fillO
            rw [if_neg z']
            exact lo.setN k
      · rintro σ H4 ⟨v3, v4, Fi, accV, rfl, s4, e34, fd, hd4, lo, _⟩
        walk_at "r"
        refine s_slL (SqL.of hd4) fun p hp => ?_
        rw [cutV_m1]
        have s5 := Stp.new (S := S0) (o := .lst accV.dropLast) s4.fh hp
        refine q p _ _ accV.dropLast (s4.trans s5) upd_same ?_
        rw [hblen] at lo
        have := LO.take (accV.length - 1) (LO.mono s5.ff lo)
        rw [← List.dropLast_eq_take, lo.len, ← List.dropLast_eq_take] at this
        exact this
abbrev s_count_told : Stmt := topS 35
theorem sc_count_told : FnScope ["load", "told"] ["load"] (defScope s_count_told) := ⟨rfl, rfl, rfl, by decide +kernel, rfl, by decide +kernel, by decide +kernel⟩
def Ok_count_told (P : Program) (w : World) (K : PySem.W.Frag) (mg : Str → Option Value) (base : Heap) : Prop := ∃ fA fd, Fn P w K mg base (L2.CX P w) 3 "count_told" s_count_told fA fd ["load"] (sp_count_told K mg)
theorem okx_count_told (Z : Zs K mg) {fA : Addr} {fd : FuncData} (F : Fun K "count_told" "count_told" s_count_told fA fd) (m : mg "count_told" = some (.ref fA)) (C_count_at : Ok_count_at P w K mg base) : Fn P w K mg base (L2.CX P w) 3 "count_told" s_count_told fA fd ["load"] (sp_count_told K mg) := by
  obtain ⟨_, _, C_count_at⟩ := C_count_at
  refine ⟨F.okX sc_count_told (fun vs H Q E h => h.1) (fun cdv A outer s H vs Q E hr h => ?_), m, F.kp, F.binds fun _ _ _ _ _ _ us hl => match us, hl with | [_], _ => rfl, F⟩
  have hu64 := hr.units
  obtain ⟨hlen, h⟩ := h
  refine ⟨_, (pss_cons (ps_set (i := 1) sc_count_told.nd rfl (Or.inl rfl) (pe_call C_count_at.G (hr.mono (by decide)) rfl C_count_at.m C_count_at.kp C_count_at.b .nil passL (pa_cons (pv 0) (pa_cons pe_int pa_nil))))
    (pss_cons (ps_if (PW.pt (pw_or (pt_cmpR op_ne (pe_ix (i_tup K rfl) (pv 1) pe_int (fun _ _ => rfl)) pe_str (nomark _)) (pw_or1 (pt_cmpR op_gt (pe_ix (i_tup K rfl) (pv 1) pe_int (fun _ _ => rfl)) (pe_glob (v := .int (1000000)) rfl Z.c_MOST_BITS ⟨_, rfl⟩) (nomark _)))))
      (pss_one (ps_raise rfl (takes_of rfl rfl rfl rfl) (pmk_own0 PySem.F.excBase_ValueError Z.x_BadCells.x Z.x_BadCells.g Z.x_BadCells.k (raises_own Z.x_BadCells.b Z.x_BadCells.t) rfl)))
      pss_nil)
    (pss_one (ps_ret (pe_tup (pa_cons (pe_ix (i_tup K rfl) (pv 1) pe_int (fun _ _ => rfl)) (pa_cons (pe_ix (i_tup K rfl) (pv 1) pe_int (fun _ _ => rfl)) pa_nil))))))), ?_⟩
  obtain ⟨a, l, rfl, hS, hl, hb, hh⟩ := h
  walk_at "r"
  refine ⟨rfl, a, l, 0, rfl, hS, by omega, by omega, fun t H1 e1 _ ht => ?_⟩
  unfold cntR at ht
  unfold cntT at hh
  simp only [Nat.zero_add] at ht
  by_cases c1 : 40 < min 41 (zrun l 0)
  · rw [if_pos c1] at ht hh
    walk_at "r"
    refine ifn (fun h => absurd h (by decide)) (fun _ => ?_)
    walk_at "r"
    rcases hh with ⟨_, q⟩ | ⟨_, _, z, _⟩
    · exact q H1 e1
    · cases z
  rw [if_neg c1] at ht hh
  by_cases c2 : l.length < min 41 (zrun l 0) + min 41 (zrun l 0) + 1
  · rw [if_pos c2] at ht hh
    walk_at "r"
    refine ifn (fun h => absurd h (by decide)) (fun _ => ?_)
    walk_at "r"
    rcases hh with ⟨_, q⟩ | ⟨_, _, z, _⟩
    · exact q H1 e1
    · cases z
  rw [if_neg c2] at ht hh
  have hz : min 41 (zrun l 0) = zrun l 0 := by omega
  have hn0 : 0 ≤ numL ((l.drop (min 41 (zrun l 0))).take (min 41 (zrun l 0) + 1)) - 1 := by
    have hzl : zrun l 0 < l.length := by omega
    rw [hz, List.drop_eq_getElem_cons hzl, List.take_succ_cons, numL_cons]
    have hne := zrun_end (bs := l) (a := 0)
    rw [Nat.zero_add, List.getElem?_eq_getElem hzl] at hne
    have h1 : l[zrun l 0] = 1 := by
      rcases hb _ (List.getElem_mem hzl) with h | h
      · exact absurd (congrArg some h) hne
      · exact h
    have hb2 : isBits ((l.drop (zrun l 0 + 1)).take (zrun l 0)) := fun x hx => hb x (List.mem_of_mem_drop (List.mem_of_mem_take hx))
    rw [h1, numN_eq _ hb2]
    have hp : (1 : Int) ≤ 2 ^ ((l.drop (zrun l 0 + 1)).take (zrun l 0)).length := by
      have := Nat.one_le_two_pow (n := ((l.drop (zrun l 0 + 1)).take (zrun l 0)).length)
      exact_mod_cast this
    omega
  walk_at "r"
  refine ifn (fun _ => ?_) (fun h => absurd rfl h)
  walk_at "r"
  refine ifd (fun h => ?_) (fun h => ?_)
  · walk_at "r"
    rw [if_neg (by omega)] at hh
    rcases hh with ⟨_, q⟩ | ⟨_, _, z, _⟩
    · exact q H1 e1
    · cases z
  · rw [if_pos (by omega)] at hh
    walk_at "r"
    rcases hh with ⟨z, _⟩ | ⟨n, p, z, q⟩
    · cases z
    · obtain ⟨rfl, rfl⟩ := Prod.mk.inj (Option.some.inj z)
      refine ⟨sz (by simp), fun p2 hp2 => q p2 _ (e1.trans (Stp.new (S := S0) (Same.refl _) hp2).same) ?_⟩
      rw [upd_same, Int.toNat_of_nonneg hn0]
abbrev s_open_cells : Stmt := topS 36
theorem sc_open_cells : FnScope ["protected", "group", "loads", "cells", "many", "begin", "end", "told", "load"] ["protected", "group"] (defScope s_open_cells) := ⟨rfl, rfl, rfl, by decide +kernel, rfl, by decide +kernel, by decide +kernel⟩
def Ok_open_cells (P : Program) (w : World) (K : PySem.W.Frag) (mg : Str → Option Value) (base : Heap) : Prop := ∃ fA fd, Fn P w K mg base (L2.CX P w) 5 "open_cells" s_open_cells fA fd ["protected", "group"] (sp_open_cells K mg)
theorem okx_open_cells (Z : Zs K mg) {fA : Addr} {fd : FuncData} (F : Fun K "open_cells" "open_cells" s_open_cells fA fd) (m : mg "open_cells" = some (.ref fA)) (C_count_told : Ok_count_told P w K mg base) (C_cut_up : Ok_cut_up P w K mg base) (C_cells_of : Ok_cells_of P w K mg base) (C_opened_group : Ok_opened_group P w K mg base) : Fn P w K mg base (L2.CX P w) 5 "open_cells" s_open_cells fA fd ["protected", "group"] (sp_open_cells K mg) := by
  obtain ⟨_, _, C_count_told⟩ := C_count_told
  obtain ⟨_, _, C_cut_up⟩ := C_cut_up
  obtain ⟨_, _, C_cells_of⟩ := C_cells_of
  obtain ⟨_, _, C_opened_group⟩ := C_opened_group
  refine ⟨F.okX sc_open_cells (fun vs H Q E h => h.1) (fun cdv A outer s H vs Q E hr h => ?_), m, F.kp, F.binds fun _ _ _ _ _ _ us hl => match us, hl with | [_, _], _ => rfl, F⟩
  have hu64 := hr.units
  obtain ⟨hlen, h⟩ := h
  refine ⟨_, (pss_cons (ps_set (i := 2) sc_open_cells.nd rfl (Or.inl rfl) (pe_lst pa_nil))
    (pss_cons (ps_for (passes_of rfl) rfl (pi_list (pe_call C_cut_up.G (hr.mono (by decide)) rfl C_cut_up.m C_cut_up.kp C_cut_up.b .nil passL (pa_cons (pe_call C_cells_of.G (hr.mono (by decide)) rfl C_cells_of.m C_cells_of.kp C_cells_of.b .nil (passes_call (takes_of rfl rfl rfl rfl) (fun _ _ _ _ h => h)) (pa_cons (pv 0) (pa_cons (pv 1) pa_nil))) (pa_cons (pe_op op_add (pv 1) pe_int) pa_nil)))) (pg_name (i := 3) sc_open_cells.nd rfl (Or.inl rfl))
      (pss_one (ps_expr (pe_bm PySem.F.plainAttrs_list PySem.F.slot_list_extend PySem.F.type_list_extend mt_extend (pv 2) (pa_cons (pe_call C_opened_group.G (hr.mono (by decide)) rfl C_opened_group.m C_opened_group.kp C_opened_group.b .nil passL (pa_cons (pv 3) pa_nil)) pa_nil)))))
    (pss_cons (ps_if (pt_cmpR op_isN (pe_ix (i_list K rfl) (pv 2) pe_int (fun _ _ => rfl)) pe_non (nomark _))
      (pss_one (ps_ret pe_non))
      pss_nil)
    (pss_cons (ps_asg (pe_call C_count_told.G (hr.mono (by decide)) rfl C_count_told.m C_count_told.kp C_count_told.b .nil (passes_call (takes_of rfl rfl rfl rfl) (fun _ _ _ _ h => h)) (pa_cons (pe_ix (i_list K rfl) (pv 2) pe_int (fun _ _ => rfl)) pa_nil)) (pg_tup rfl (pgs_cons (pg_name (i := 4) sc_open_cells.nd rfl (Or.inl rfl)) (pgs_cons (pg_name (i := 5) sc_open_cells.nd rfl (Or.inl rfl)) pgs_nil))))
    (pss_cons (ps_set (i := 6) sc_open_cells.nd rfl (Or.inl rfl) (pe_op op_add (pv 5) (pv 4)))
    (pss_cons (ps_if (pt_cmpR op_ne (pe_un un_neg (pe_op op_fdiv (pe_un un_neg (pv 6)) (pe_glob (v := .int (48)) rfl Z.c_LOAD_SIZE ⟨_, rfl⟩))) (pe_callB (c_len K rfl) (by rfl) Z.z_len (by decide +kernel) (pa_cons (pv 2) pa_nil)) (nomark _))
      (pss_one (ps_raise rfl (takes_of rfl rfl rfl rfl) (pmk_own0 PySem.F.excBase_ValueError Z.x_BadCells.x Z.x_BadCells.g Z.x_BadCells.k (raises_own Z.x_BadCells.b Z.x_BadCells.t) rfl)))
      pss_nil)
    (pss_cons (ps_set (i := 7) sc_open_cells.nd rfl (Or.inl rfl) (pe_lst pa_nil))
    (pss_cons (ps_for (passes_of rfl) rfl (pi_list (pv 2)) (pg_name (i := 8) sc_open_cells.nd rfl (Or.inl rfl))
      (pss_one (ps_expr (pe_bm PySem.F.plainAttrs_list PySem.F.slot_list_extend PySem.F.type_list_extend mt_extend (pv 7) (pa_cons (pe_ifExp (pt_cmpR op_isN (pv 8) pe_non (nomark _)) (pe_op op_rep (pe_lst (pa_cons pe_non pa_nil)) (pe_glob (v := .int (48)) rfl Z.c_LOAD_SIZE ⟨_, rfl⟩)) (pv 8)) pa_nil)))))
    (pss_cons (ps_if (pt_cmpR (o_in K rfl) pe_int (pe_slice (l_list K rfl) (pv 7) (po_some (pv 6)) po_none) rfl)
      (pss_one (ps_raise rfl (takes_of rfl rfl rfl rfl) (pmk_own0 PySem.F.excBase_ValueError Z.x_BadCells.x Z.x_BadCells.g Z.x_BadCells.k (raises_own Z.x_BadCells.b Z.x_BadCells.t) rfl)))
      pss_nil)
    (pss_one (ps_ret (pe_slice (l_list K rfl) (pv 7) (po_some (pv 5)) (po_some (pv 6)))))))))))))), ?_⟩
  obtain ⟨a, ns, g, rfl, hS, hlen, q⟩ := h
  walk_at "r"
  refine ⟨sz (by simp), fun lf hlf => ?_⟩
  have h1 : upd H lf (.lst []) lf = some (.lst []) := upd_same
  have e1 : Same H (upd H lf (.lst [])) := (Stp.new (S := S0) (Same.refl _) hlf).same
  generalize upd H lf (.lst []) = H1 at e1 h1 ⊢
  walk_at "r"
  refine ⟨rfl, H, a, ns, g, rfl, e1, hS, hlen, ?_⟩
  unfold openR at q
  by_cases c1 : ns.all goodI = false
  · rw [if_pos c1] at q
    exact .inl ⟨c1, q H1 e1⟩
  rw [if_neg c1] at q
  have hg : ns.all goodI = true := by simpa using c1
  by_cases c2 : ¬ (1 ≤ g ∧ g ≤ 8)
  · rw [if_pos c2] at q
    exact .inr (.inl ⟨hg, c2, q H1 e1⟩)
  rw [if_neg c2] at q
  have g1 : 1 ≤ g ∧ g ≤ 8 := Decidable.not_not.mp c2
  obtain ⟨gn, rfl⟩ : ∃ gn : Nat, g = gn := ⟨g.toNat, by omega⟩
  rw [Int.toNat_natCast] at q
  by_cases c3 : ¬ sizeOk gn ns.length
  · rw [if_pos c3] at q
    exact .inr (.inr (.inl ⟨hg, g1, c3, fun H' s => q H' (e1.trans s)⟩))
  rw [if_neg c3] at q
  have c3 : sizeOk gn ns.length := Decidable.not_not.mp c3
  refine .inr (.inr (.inr ⟨hg, g1, c3, fun p1 F1 H2 acc1 st1 hp1 rl1 => ?_⟩))
  obtain ⟨sz1, sz2, sz3⟩ := c3
  have hb := all_good.mp hg
  have g0 : 0 < gn := by omega
  obtain ⟨n, hn⟩ : ∃ n, ns.length = n * 56 := ⟨ns.length / 56, by omega⟩
  obtain ⟨cs, hcs⟩ : ∃ cs, chunk 56 ns = cs := ⟨_, rfl⟩
  have hC : Cls cs := fun c hc => ⟨chunk_whole (by decide) ns n hn c (by rw [hcs]; exact hc), fun x hx => hb x (chunk_mem (k := 56) (by decide) (by rw [hcs]; exact hc) hx)⟩
  have hcl : cs.length = ns.length / 56 := by
    have := flat_len cs (fun c hc => (hC c hc).1)
    rw [← hcs, chunk_flatten (by decide), hcs] at this
    omega
  rw [hcs] at rl1
  have f1 : F1 lf = none := (st1.fo _ _ h1).trans hlf
  have h2 : H2 lf = some (.lst []) := st1.same _ _ h1
  have hal := RL.len rl1
  walk_at "r"
  refine ⟨rfl, F1, p1, acc1, gn + 1, by simp, st1.fh, SqL.of hp1, by omega, by omega, by omega, fun p2 F2 H3 acc2 st2 hp2 lv2 => ?_⟩
  have f2 : F2 lf = none := (st2.fo _ _ h2).trans f1
  have h3 : H3 lf = some (.lst []) := st2.same _ _ h2
  have rl2 : RL F2 acc1 cs := LV.mono st2.ff rl1
  have hgl : acc2.length = (chunk (gn + 1) cs).length := by rw [lv2.len, chunk_len (by omega), chunk_len (by omega), hal]
  have hq : loadsO gn ns = ((chunk (gn + 1) cs).map openG).flatten := by rw [loadsO, hcs]
  have hgb : (chunk (gn + 1) cs).length ≤ 2000 := by
    rw [chunk_len (by omega)]
    exact Nat.le_trans (Nat.div_le_self _ _) (by omega)
  walk_at "r"
  refine ⟨p2, rfl, ⟨_, SqL.of (st2.fh _ _ hp2)⟩, ?_⟩
  refine forL (xs := acc2) (fun i σ H' => ∃ v3 Fi accs, σ = [some (.ref a), some (.int gn), some (.ref lf), v3, none, none, none, none, none] ∧ Same F2 Fi ∧ Same Fi H' ∧ Fi lf = none ∧ Same H H' ∧ H' lf = some (.lst accs) ∧ LO Fi accs ((((chunk (gn + 1) cs).take i).map openG).flatten) ∧ accs.length ≤ 9 * i)
    ⟨_, F2, [], rfl, Same.refl _, st2.fh, f2, e1.trans (st1.same.trans st2.same), h3, .nil, by simp⟩ (fun i σ H' _ ⟨_, _, _, _, s, s', _⟩ => s'.seq (SqL.of (s _ _ hp2))) ?_ ?_
  · rintro i x σ H4 hx ⟨v3, Fi, accs, rfl, eF, e4, fn, e04, h4, lo, hlo⟩
    obtain ⟨b, l, rfl, hl1, hb1⟩ := LV.get i lv2 hx
    have hi : i < (chunk (gn + 1) acc1).length := (List.getElem?_eq_some_iff.mp hl1).1
    have hi2 : i < (chunk (gn + 1) cs).length := by rw [← hgl, lv2.len]; exact hi
    obtain ⟨s, hs⟩ : ∃ s, (chunk (gn + 1) cs)[i]? = some s := ⟨_, List.getElem?_eq_getElem hi2⟩
    have hs2 := hs
    rw [chunk_get (by omega) _ i hi2] at hs2
    rw [chunk_get (by omega) _ i hi] at hl1
    have rls : RL F2 l s := by
      rw [← Option.some.inj hl1, ← Option.some.inj hs2]
      exact RL.take _ (RL.drop _ rl2)
    have hsm := List.mem_of_getElem? hs
    have slen : s.length ≤ gn + 1 := by rw [← Option.some.inj hs2, List.length_take]; omega
    have slen2 := chunk_two (by omega) (cs := cs) (by rw [hcl]; exact sz3) s hsm
    walk_at "r"
    refine ⟨.inl ⟨rfl, _, SqL.of h4⟩, ?_⟩
    walk_at "r"
    refine ⟨rfl, Fi, b, l, s, rfl, e4, SqL.of (eF _ _ hb1), LV.mono eF rls, slen2, by omega, fun c hc => hC c (chunk_mem (by omega) hsm hc), fun y F' H5 acc' st' hy lo' => ?_⟩
    walk_at "r"
    have lb := lo'.len
    rw [openG_len] at lb
    refine ⟨lf, y, _, _, rfl, rfl, st'.same _ _ h4, st'.fh _ _ hy, Nat.le_trans (m := 100000) (by omega) (by decide), ?_⟩
    have f' : F' lf = none := (st'.fo _ _ h4).trans fn
    refine ⟨_, F', accs ++ acc', rfl, eF.trans st'.ff, (Stp.wr (S := S1 lf) st'.fh rfl f').fh, f', fun b' o' h' => ?_, upd_same, ?_, by rw [List.length_append]; omega⟩
    · rw [upd_ne (ne_of_none h' hlf)]; exact st'.same _ _ (e04 _ _ h')
    · have := LO.app (LO.mono st'.ff lo) lo'
      rw [List.getElem?_eq_getElem hi2] at hs
      rw [List.take_succ_eq_append_getElem hi2, List.map_append, List.flatten_append, Option.some.inj hs]
      simpa using this
  · rintro σ H4 ⟨v3, Fi, accs, rfl, eF, e4, fn, e04, h4, lo, hlo⟩
    rw [hgl, List.take_length, ← hq] at lo
    rw [hgl] at hlo
    have la := lo.len
    have hL48 : ∀ o ∈ loadsO gn ns, ∀ l, o = some l → l.length = 48 ∧ isBits l := by
      rw [hq]; exact openG_lds hC
    have h0L : loadsO gn ns ≠ [] := by
      rw [hq]; exact loadsO_ne (by omega) (by rw [hcl]; exact sz2) (by rw [hcl]; exact sz3)
    have hLb : (loadsO gn ns).length ≤ 18000 := by omega
    generalize loadsO gn ns = L at *
    have h0a : 0 < accs.length := by rw [la]; exact List.length_pos_iff.mpr h0L
    obtain ⟨o0, hLc⟩ : ∃ o0, L[0]? = some o0 := ⟨_, List.getElem?_eq_getElem (by omega)⟩
    walk_at "r"
    rcases LO.get 0 lo (List.getElem?_eq_getElem h0a) with ⟨hv0, hl0⟩ | ⟨b0, l0, hv0, hl0, hh0⟩
    · have ha0 : accs[0]? = some .non := by rw [← hv0]; exact List.getElem?_eq_getElem h0a
      refine s_ixL (SqL.of h4) (at_of (j := 0) (by decide) ha0) ?_
      walk_at "r"
      refine ⟨rfl, ?_⟩
      rw [show decide (V.non = V.non) = true from rfl]
      walk_at "r"
      have qq := q H4 e04
      rw [show openL L = .non by
        cases L with
        | nil => exact absurd rfl h0L
        | cons x r => rw [show x = none from Option.some.inj hl0]; rfl] at qq
      exact qq
    have ha0 : accs[0]? = some (.ref b0) := by rw [← hv0]; exact List.getElem?_eq_getElem h0a
    refine s_ixL (SqL.of h4) (at_of (j := 0) (by decide) ha0) ?_
    walk_at "r"
    refine ⟨rfl, ?_⟩
    rw [show decide (V.ref b0 = V.non) = false from decide_eq_false (by simp)]
    walk_at "r"
    refine s_ixL (SqL.of h4) (at_of (j := 0) (by decide) ha0) ?_
    walk_at "r"
    have ld0 := hL48 _ (List.mem_of_getElem? hl0) l0 rfl
    have eo : openL L = match cntT l0 with
        | none => .cells
        | some (n, p) => endR L n p := by
      cases L with
      | nil => exact absurd rfl h0L
      | cons x r => rw [show x = some l0 from Option.some.inj hl0]; rfl
    rw [eo] at q
    refine ⟨rfl, b0, l0, rfl, SqL.of (e4 _ _ hh0), by omega, ld0.2, ?_⟩
    cases ec : cntT l0 with
    | none =>
      rw [ec] at q
      exact .inl ⟨rfl, fun H' s => q H' (e04.trans s)⟩
    | some np =>
    obtain ⟨n1, p1'⟩ := np
    rw [ec] at q
    refine .inr ⟨n1, p1', rfl, fun t H5 e5 ht => ?_⟩
    replace q : ∀ H', Same H H' → OpQ mg Q E H H' (endR L n1 p1') := q
    unfold endR at q
    walk_at "r"
    replace h4 := e5 _ _ h4
    refine s_len (SqL.of h4) ?_
    walk_at "r"
    refine ifn (fun c4 => ?_) (fun c4 => ?_)
    rotate_left
    · have c4' : (n1 + p1' + 47) / 48 ≠ L.length := fun w => c4 (by omega)
      rw [if_pos c4'] at q
      walk_at "r"
      exact q H5 (e04.trans e5)
    have c4' : ¬ (n1 + p1' + 47) / 48 ≠ L.length := fun w => w (by omega)
    rw [if_neg c4'] at q
    walk_at "r"
    refine ⟨sz (by simp), fun tc htc => ?_⟩
    have nlf := ne_of_none h4 htc
    have e6 : Same H5 (upd H5 tc (.lst [])) := (Stp.new (S := S0) (Same.refl _) htc).same
    have h6 : upd H5 tc (.lst []) tc = some (.lst []) := upd_same
    generalize upd H5 tc (.lst []) = H6 at e6 h6 ⊢
    replace h4 := e6 _ _ h4
    have tc0 : H tc = none := (e04.trans e5).free htc
    have tcF : Fi tc = none := (e4.trans e5).free htc
    walk_at "r"
    refine ⟨lf, rfl, ⟨_, SqL.of h4⟩, ?_⟩
    refine forL (xs := accs) (fun i σ H' => ∃ v8, σ = [some (.ref a), some (.int gn), some (.ref lf), v3, some (.int n1), some (.int p1'), some (.int ((p1' : Int) + (n1 : Int))), some (.ref tc), v8] ∧ Same Fi H' ∧ Same H H' ∧ H' lf = some (.lst accs) ∧ H' tc = some (.lst ((flatO (L.take i)).map oV)))
      ⟨_, rfl, e4.trans (e5.trans e6), e04.trans (e5.trans e6), h4, by rw [h6]; rfl⟩ (fun i σ H' _ ⟨_, _, _, _, s, _⟩ => SqL.of s) ?_ ?_
    · rintro i x σ H7 hx ⟨v8, rfl, e7, e07, h7, t7⟩
      have hi : i < L.length := by
        have := (List.getElem?_eq_some_iff.mp hx).1
        omega
      have fl := flatO_len (L.take i) (fun o ho l hl => (hL48 o (List.mem_of_mem_take ho) l hl).1)
      rw [List.length_take] at fl
      have fs : ∀ o, L[i]? = some o → flatO (L.take (i + 1)) = flatO (L.take i) ++ flatO [o] := fun o ho => by
        rw [List.getElem?_eq_getElem hi] at ho
        rw [List.take_succ_eq_append_getElem hi, Option.some.inj ho]; simp [flatO]
      rcases LO.get i lo hx with ⟨rfl, hl1⟩ | ⟨b, l, rfl, hl1, hb1⟩
      · walk_at "r"
        refine ⟨.inl ⟨rfl, _, SqL.of t7⟩, ?_⟩
        walk_at "r"
        refine ⟨rfl, ?_⟩
        rw [show decide (V.non = V.non) = true from rfl]
        walk_at "r"
        refine ⟨sz (by simp), fun w hw => ?_⟩
        have s8 := Stp.new (S := S0) (o := .lst [.non]) (Same.refl H7) hw
        walk_at "r"
        refine s_rep upd_same (by decide) (by decide) fun w2 hw2 => ?_
        have s9 := Stp.new (S := S0) (o := .lst (List.replicate (48 : Int).toNat V.non)) s8.fh hw2
        have e79 : Same H7 (upd (upd H7 w (.lst [.non])) w2 (.lst (List.replicate (48 : Int).toNat V.non))) := (s8.trans s9).same
        have h92 : upd (upd H7 w (.lst [.non])) w2 (.lst (List.replicate (48 : Int).toNat V.non)) w2 = some (.lst (List.replicate (48 : Int).toNat V.non)) := upd_same
        clear s8 s9
        generalize upd (upd H7 w (.lst [.non])) w2 (.lst (List.replicate (48 : Int).toNat V.non)) = H9 at e79 h92 ⊢
        refine ⟨tc, w2, _, _, rfl, rfl, e79 _ _ t7, h92, Nat.le_trans (m := 1000000) (by rw [List.length_map, fl, List.length_replicate]; omega) (by decide), ?_⟩
        refine ⟨_, rfl, (Stp.wr (S := S1 tc) (e7.trans e79) rfl tcF).fh, fun b' o' h' => ?_, ?_, ?_⟩
        · rw [upd_ne (ne_of_none h' tc0)]; exact e79 _ _ (e07 _ _ h')
        · rw [upd_ne nlf]; exact e79 _ _ h7
        · rw [upd_same, fs _ hl1, List.map_append]; rfl
      · have ld := hL48 _ (List.mem_of_getElem? hl1) l rfl
        walk_at "r"
        refine ⟨.inl ⟨rfl, _, SqL.of t7⟩, ?_⟩
        walk_at "r"
        refine ⟨rfl, ?_⟩
        rw [show decide (V.ref b = V.non) = false from decide_eq_false (by simp)]
        walk_at "r"
        refine ⟨tc, b, _, _, rfl, rfl, t7, e7 _ _ hb1, Nat.le_trans (m := 1000000) (by rw [List.length_map, List.length_map, fl, ld.1]; omega) (by decide), ?_⟩
        refine ⟨_, rfl, (Stp.wr (S := S1 tc) e7 rfl tcF).fh, fun b' o' h' => ?_, ?_, ?_⟩
        · rw [upd_ne (ne_of_none h' tc0)]; exact e07 _ _ h'
        · rw [upd_ne nlf]; exact h7
        · rw [upd_same, fs _ hl1, List.map_append, ← oV_some]; simp [flatO]
    · rintro σ H7 ⟨v8, rfl, e7, e07, h7, t7⟩
      rw [la, List.take_length] at t7
      have ee : (p1' : Int) + (n1 : Int) = ((p1' + n1 : Nat) : Int) := by omega
      rw [ee]
      walk_at "r"
      refine s_slL (SqL.of t7) fun p8 hp8 => ?_
      rw [cutV_from, ← List.map_drop]
      have e8 : Same H7 (upd H7 p8 (.lst (((flatO L).drop (p1' + n1)).map oV))) := (Stp.new (S := S0) (Same.refl _) hp8).same
      refine s_inO (SqL.of upd_same) ?_
      generalize upd H7 p8 (.lst (((flatO L).drop (p1' + n1)).map oV)) = H8 at e8 ⊢
      walk_at "r"
      refine ifd (fun c5 => ?_) (fun c5 => ?_)
      · rw [if_pos c5] at q
        walk_at "r"
        exact q H8 (e07.trans e8)
      rw [if_neg c5] at q
      walk_at "r"
      refine s_slL (SqL.of (e8 _ _ t7)) fun p9 hp9 => ?_
      rw [cutV_nat, ← List.map_drop, ← List.map_take, Nat.add_sub_cancel_left]
      exact q _ ((e07.trans e8).trans (Stp.new (S := S0) (Same.refl _) hp9).same) p9 ((e07.trans e8).free hp9) upd_same
abbrev s_law_pool : Stmt := topS 38
theorem sc_law_pool : FnScope ["_law_script", "_law_k", "_law_cell", "_law_big", "_law_mixed"] ["_law_script", "_law_k"] (defScope s_law_pool) := ⟨rfl, rfl, rfl, by decide +kernel, rfl, by decide +kernel, by decide +kernel⟩
def Ok_law_pool (P : Program) (w : World) (K : PySem.W.Frag) (mg : Str → Option Value) (base : Heap) : Prop := ∃ fA fd, Fn P w K mg base (L2.CX P w) 1 "_law_pool" s_law_pool fA fd ["_law_script", "_law_k"] (sp_law_pool K mg)
theorem okx_law_pool (Z : Zs K mg) {fA : Addr} {fd : FuncData} (F : Fun K "_law_pool" "_law_pool" s_law_pool fA fd) (m : mg "_law_pool" = some (.ref fA))  : Fn P w K mg base (L2.CX P w) 1 "_law_pool" s_law_pool fA fd ["_law_script", "_law_k"] (sp_law_pool K mg) := by
  refine ⟨F.okX sc_law_pool (fun vs H Q E h => h.1) (fun cdv A outer s H vs Q E hr h => ?_), m, F.kp, F.binds fun _ _ _ _ _ _ us hl => match us, hl with | [_, _], _ => rfl, F⟩
  have hu64 := hr.units
  obtain ⟨hlen, h⟩ := h
  refine ⟨_, (pss_cons (ps_set (i := 2) sc_law_pool.nd rfl (Or.inl rfl) (pe_ifExp (pt_cmpR op_lt (pv 1) (pe_callB (c_len K rfl) (by rfl) Z.z_len (by decide +kernel) (pa_cons (pv 0) pa_nil)) (nomark _)) (pe_callTy c_int1 (by rfl) Z.z_int (by decide +kernel) (pa_cons (pe_ix (i_list K rfl) (pv 0) (pv 1) (fun _ _ => rfl)) pa_nil)) pe_int))
    (pss_cons (ps_set (i := 3) sc_law_pool.nd rfl (Or.inl rfl) (pe_callB (c_max2 rfl) (by rfl) Z.z_max (by decide +kernel) (pa_cons (pv 2) (pa_cons (pe_callTy c_int1 (by rfl) Z.z_int (by decide +kernel) (pa_cons (pe_op op_sub (pe_un un_neg pe_int) (pv 2)) pa_nil)) pa_nil))))
    (pss_cons (ps_set (i := 4) sc_law_pool.nd rfl (Or.inl rfl) (pe_op op_mod (pe_callTy c_int1 (by rfl) Z.z_int (by decide +kernel) (pa_cons (pe_op op_mul (pe_op op_add (pe_op op_add (pe_op op_add (pe_op op_mod (pe_callTy c_int1 (by rfl) Z.z_int (by decide +kernel) (pa_cons (pv 3) pa_nil)) pe_int) (pe_op op_mul (pe_op op_mul pe_int (pv 1)) (pv 1))) (pe_op op_mul pe_int (pv 1))) pe_int) pe_int) pa_nil)) pe_int))
    (pss_one (ps_ret (pe_lst (pa_cons (pe_op op_mul (pv 3) (pe_callTy c_int1 (by rfl) Z.z_int (by decide +kernel) (pa_cons (pe_cmpR op_ge (pv 3) (pe_op op_pow pe_int pe_int) (nomark _)) pa_nil))) (pa_cons (pv 4) pa_nil)))))))), ?_⟩
  obtain ⟨s, ns, k, rfl, hS, hk0, hk, q⟩ := h
  have fin : ∀ (x y : Int), 0 ≤ y → y < 2147483647 → (∀ p, H p = none → Q (.ref p) (upd H p (.lst [.int x, .int y]))) := fun x y y0 y1 p hp =>
    q p _ ⟨(Stp.new (S := S0) (Same.refl H) hp).same, hp, x, y, upd_same, y0, y1⟩
  walk_at "r"
  refine ifd (fun h => ?_) (fun h => ?_)
  · walk_at "r"
    have hl : k.toNat < ns.length := by simp at h; omega
    refine s_ixL hS (at_of (j := k.toNat) (by omega) (get_int hl)) ?_
    walk_at "r"
    exact ⟨sz (by simp), fin _ _ (Int.emod_nonneg _ (by decide)) (Int.emod_lt_of_pos _ (by decide))⟩
  · walk_at "r"
    exact ⟨sz (by simp), fin _ _ (Int.emod_nonneg _ (by decide)) (Int.emod_lt_of_pos _ (by decide))⟩
abbrev s_law_take : Stmt := topS 39
theorem sc_law_take : FnScope ["_law_source", "_law_top", "_law_drawn"] ["_law_source", "_law_top"] (defScope s_law_take) := ⟨rfl, rfl, rfl, by decide +kernel, rfl, by decide +kernel, by decide +kernel⟩
def Ok_law_take (P : Program) (w : World) (K : PySem.W.Frag) (mg : Str → Option Value) (base : Heap) : Prop := ∃ fA fd, Fn P w K mg base (L2.CX P w) 1 "_law_take" s_law_take fA fd ["_law_source", "_law_top"] (sp_law_take K mg)
theorem okx_law_take (Z : Zs K mg) {fA : Addr} {fd : FuncData} (F : Fun K "_law_take" "_law_take" s_law_take fA fd) (m : mg "_law_take" = some (.ref fA))  : Fn P w K mg base (L2.CX P w) 1 "_law_take" s_law_take fA fd ["_law_source", "_law_top"] (sp_law_take K mg) := by
  refine ⟨F.okX sc_law_take (fun vs H Q E h => h.1) (fun cdv A outer s H vs Q E hr h => ?_), m, F.kp, F.binds fun _ _ _ _ _ _ us hl => match us, hl with | [_, _], _ => rfl, F⟩
  have hu64 := hr.units
  obtain ⟨hlen, h⟩ := h
  refine ⟨_, (pss_cons (ps_if (pt_cmpR op_gt (pe_ix (i_list K rfl) (pv 0) pe_int (fun _ _ => rfl)) pe_int (nomark _))
      (pss_cons (ps_set (i := 2) sc_law_take.nd rfl (Or.inl rfl) (pe_op op_mod (pe_callTy c_int1 (by rfl) Z.z_int (by decide +kernel) (pa_cons (pe_ix (i_list K rfl) (pv 0) pe_int (fun _ _ => rfl)) pa_nil)) (pv 1)))
    (pss_cons (ps_asg (pe_op op_fdiv (pe_ix (i_list K rfl) (pv 0) pe_int (fun _ _ => rfl)) (pv 1)) (pg_sub (pv 0) pe_int set_list))
    (pss_one (ps_ret (pv 2)))))
      pss_nil)
    (pss_cons (ps_asg (pe_op op_mod (pe_callTy c_int1 (by rfl) Z.z_int (by decide +kernel) (pa_cons (pe_op op_add (pe_op op_mul (pe_ix (i_list K rfl) (pv 0) pe_int (fun _ _ => rfl)) pe_int) pe_int) pa_nil)) pe_int) (pg_sub (pv 0) pe_int set_list))
    (pss_one (ps_ret (pe_op op_mod (pe_callTy c_int1 (by rfl) Z.z_int (by decide +kernel) (pa_cons (pe_op op_fdiv (pe_op op_mod (pe_callTy c_int1 (by rfl) Z.z_int (by decide +kernel) (pa_cons (pe_op op_mul (pe_ix (i_list K rfl) (pv 0) pe_int (fun _ _ => rfl)) (pe_ix (i_list K rfl) (pv 0) pe_int (fun _ _ => rfl))) pa_nil)) pe_int) pe_int) pa_nil)) (pv 1)))))), ?_⟩
  obtain ⟨F0, p, t, rfl, hs, ht, ht2, q⟩ := h
  obtain ⟨hs0, hp0, a, b, hp, hb0, hb1⟩ := id hs
  have st : ∀ o, Stp (S1 p) F0 H F0 (upd H p o) := fun o => Stp.wr hs0 rfl hp0
  walk_at "r"
  refine ifd (fun h => ?_) (fun h => ?_)
  · walk_at "r"
    exact q _ _ (hs.wr hb0 hb1) (st _) (Int.emod_nonneg _ (by omega)) (Int.emod_lt_of_pos _ ht)
  · walk_at "r"
    exact q _ _ (hs.wr (Int.emod_nonneg _ (by decide)) (Int.emod_lt_of_pos _ (by decide))) (st _) (Int.emod_nonneg _ (by omega)) (Int.emod_lt_of_pos _ ht)
abbrev s_law_one : Stmt := topS 40
theorem sc_law_one : FnScope ["_law_source", "_law_things"] ["_law_source", "_law_things"] (defScope s_law_one) := ⟨rfl, rfl, rfl, by decide +kernel, rfl, by decide +kernel, by decide +kernel⟩
def Ok_law_one (P : Program) (w : World) (K : PySem.W.Frag) (mg : Str → Option Value) (base : Heap) : Prop := ∃ fA fd, Fn P w K mg base (L2.CX P w) 2 "_law_one" s_law_one fA fd ["_law_source", "_law_things"] (sp_law_one K mg)
theorem okx_law_one (Z : Zs K mg) {fA : Addr} {fd : FuncData} (F : Fun K "_law_one" "_law_one" s_law_one fA fd) (m : mg "_law_one" = some (.ref fA)) (C_law_take : Ok_law_take P w K mg base) : Fn P w K mg base (L2.CX P w) 2 "_law_one" s_law_one fA fd ["_law_source", "_law_things"] (sp_law_one K mg) := by
  obtain ⟨_, _, C_law_take⟩ := C_law_take
  refine ⟨F.okX sc_law_one (fun vs H Q E h => h.1) (fun cdv A outer s H vs Q E hr h => ?_), m, F.kp, F.binds fun _ _ _ _ _ _ us hl => match us, hl with | [_, _], _ => rfl, F⟩
  have hu64 := hr.units
  obtain ⟨hlen, h⟩ := h
  refine ⟨_, (pss_one (ps_ret (pe_ix (i_list K rfl) (pv 1) (pe_call C_law_take.G (hr.mono (by decide)) rfl C_law_take.m C_law_take.kp C_law_take.b .nil passL (pa_cons (pv 0) (pa_cons (pe_callB (c_len K rfl) (by rfl) Z.z_len (by decide +kernel) (pa_cons (pv 1) pa_nil)) pa_nil))) (fun _ _ => rfl)))), ?_⟩
  obtain ⟨F0, p, a, ns, rfl, hs, hn, hn0, hn1, q⟩ := h
  have ha := hs.1.seq hn
  walk_at "r"
  refine ⟨rfl, F0, p, _, rfl, hs, ?_, ?_, fun r H1 s1 st1 r0 r1 => ?_⟩
  · simp; omega
  · simp; omega
  walk_at "r"
  have hl : r.toNat < ns.length := by simp at r1; omega
  exact s_ixL (s1.1.seq hn) (at_of (j := r.toNat) (by omega) (get_int hl)) (q _ _ s1 st1 (List.getElem_mem hl))
abbrev s_law_count : Stmt := topS 41
theorem sc_law_count : FnScope ["_law_number", "_law_figures", "_law_rest"] ["_law_number"] (defScope s_law_count) := ⟨rfl, rfl, rfl, by decide +kernel, rfl, by decide +kernel, by decide +kernel⟩
def Ok_law_count (P : Program) (w : World) (K : PySem.W.Frag) (mg : Str → Option Value) (base : Heap) : Prop := ∃ fA fd, Fn P w K mg base (L2.CX P w) 1 "_law_count" s_law_count fA fd ["_law_number"] (sp_law_count K mg)
theorem okx_law_count (Z : Zs K mg) {fA : Addr} {fd : FuncData} (F : Fun K "_law_count" "_law_count" s_law_count fA fd) (m : mg "_law_count" = some (.ref fA))  : Fn P w K mg base (L2.CX P w) 1 "_law_count" s_law_count fA fd ["_law_number"] (sp_law_count K mg) := by
  refine ⟨F.okX sc_law_count (fun vs H Q E h => h.1) (fun cdv A outer s H vs Q E hr h => ?_), m, F.kp, F.binds fun _ _ _ _ _ _ us hl => match us, hl with | [_], _ => rfl, F⟩
  have hu64 := hr.units
  obtain ⟨hlen, h⟩ := h
  refine ⟨_, (pss_cons (ps_par (i := 1) (j := 2) (by rfl) sc_law_count.nd rfl rfl (by decide) rfl rfl (pa_cons (pe_lst pa_nil) (pa_cons (pe_op op_add (pv 0) pe_int) pa_nil)) (by rfl))
    (pss_cons (ps_while (passes_of rfl) (pt_cmpR op_gt (pv 2) pe_int (nomark _))
      (pss_cons (ps_set (i := 1) sc_law_count.nd rfl (Or.inl rfl) (pe_op op_cat (pe_lst (pa_cons (pe_op op_mod (pv 2) pe_int) pa_nil)) (pv 1)))
    (pss_one (ps_set (i := 2) sc_law_count.nd rfl (Or.inl rfl) (pe_op op_fdiv (pv 2) pe_int)))))
    (pss_one (ps_ret (pe_op op_cat (pe_op op_rep (pe_lst (pa_cons pe_int pa_nil)) (pe_op op_sub (pe_callB (c_len K rfl) (by rfl) Z.z_len (by decide +kernel) (pa_cons (pv 1) pa_nil)) pe_int)) (pv 1)))))), ?_⟩
  obtain ⟨n, rfl, hn, q⟩ := h
  have b3 : blen (n + 1) ≤ 41 := blen_le (by omega)
  have b1 := blen_pos (n := n + 1) (by omega)
  walk_at "r"
  refine ⟨sz (by simp), fun a0 ha0 => ?_⟩
  walk_at "r"
  refine whileM (mon_test (mon_op mon_I0 mon_var mon_c))
    (fun σ H' => ∃ (j : Nat) (a : Addr), σ = [some (.int n), some (.ref a), some (.int (((n + 1) / 2 ^ j : Nat) : Int))] ∧ Same H H' ∧ H a = none ∧ H' a = some (.lst ((fixL j (n + 1)).map V.int)) ∧ j ≤ blen (n + 1)) (fun σ _ => match σ with
      | [_, _, some (.int p)] => p.toNat
      | _ => 0) ⟨0, a0, by simp; rfl, (Stp.new (S := S0) (Same.refl H) ha0).same, ha0, upd_same, Nat.zero_le _⟩ ?_
  rintro σ H1 ⟨j, a, rfl, e1, a0', ha, hj⟩
  walk_at "r"
  refine ifd (fun h => ?_) (fun h => ?_)
  · have h' : 0 < (n + 1) / 2 ^ j := Int.ofNat_lt.mp h
    have hlt : j < blen (n + 1) := by
      rw [lt_blen]
      exact (Nat.div_pos_iff.mp h').2
    walk_at "r"
    refine ⟨sz (by simp), fun b hb0 => ?_⟩
    have s2 := Stp.new (S := S0) (o := .lst [.int ((((n + 1) / 2 ^ j : Nat) : Int) % 2)]) (Same.refl H1) hb0
    walk_at "r"
    refine ⟨_, _, _, _, rfl, rfl, upd_same, s2.same _ _ ha, sz (by simp [fixL_len]; omega), fun c hc => ?_⟩
    have s3 := Stp.new (S := S0) (o := .lst ([.int ((((n + 1) / 2 ^ j : Nat) : Int) % 2)] ++ (fixL j (n + 1)).map V.int)) s2.fh hc
    walk_at "r"
    refine ⟨⟨j + 1, c, ?_, e1.trans (s2.trans s3).same, (e1.trans s2.same).free hc, ?_, by omega⟩, ?_⟩
    · rw [show (((n + 1) / 2 ^ (j + 1) : Nat) : Int) = (((n + 1) / 2 ^ j : Nat) : Int) / 2 by rw [Nat.pow_succ, ← Nat.div_div_eq_div_mul]; simp]
      rfl
    · rw [upd_same, fixL_cons]; simp
    · show ((((n + 1) / 2 ^ j : Nat) : Int) / 2).toNat < (((n + 1) / 2 ^ j : Nat) : Int).toNat
      generalize (n + 1) / 2 ^ j = y at h'
      omega
  · have h' : (n + 1) / 2 ^ j = 0 := Nat.eq_zero_of_not_pos fun z => h (Int.ofNat_lt.mpr z)
    have e : j = blen (n + 1) := by
      refine Nat.le_antisymm hj (Nat.le_of_not_lt fun z => ?_)
      rw [lt_blen] at z
      have := Nat.div_pos z (Nat.two_pow_pos j)
      omega
    subst e
    walk_at "r"
    refine ⟨sz (by simp), fun b hb => ?_⟩
    have s2 := Stp.new (S := S0) (o := .lst [.int 0]) (Same.refl H1) hb
    walk_at "r"
    refine s_len (SqL.of (s2.same _ _ ha)) ?_
    walk_at "r"
    rw [List.length_map, fixL_len]
    refine s_rep upd_same (by omega) (by omega) fun b2 hb2 => ?_
    have s3 := Stp.new (S := S0) (o := .lst (List.replicate ((blen (n + 1) : Int) - 1).toNat (V.int 0))) s2.fh hb2
    walk_at "r"
    refine ⟨_, _, _, _, rfl, rfl, upd_same, (s2.trans s3).same _ _ ha, sz (by simp [fixL_len]; omega), fun c hc => ?_⟩
    refine q c _ ((e1.trans (s2.trans s3).same).trans (Stp.new (S := S0) (Same.refl _) hc).same) ((e1.trans (s2.trans s3).same).free hc) ?_
    rw [upd_same]
    unfold countL
    rw [List.map_append, List.map_replicate, show ((blen (n + 1) : Int) - 1).toNat = blen (n + 1) - 1 by omega]
abbrev s_law_check : Stmt := topS 42
theorem sc_law_check : FnScope ["_law_load", "_law_number", "_law_bit", "_law_place"] ["_law_load"] (defScope s_law_check) := ⟨rfl, rfl, rfl, by decide +kernel, rfl, by decide +kernel, by decide +kernel⟩
def Ok_law_check (P : Program) (w : World) (K : PySem.W.Frag) (mg : Str → Option Value) (base : Heap) : Prop := ∃ fA fd, Fn P w K mg base (L2.CX P w) 1 "_law_check" s_law_check fA fd ["_law_load"] (sp_law_check K mg)
theorem okx_law_check (Z : Zs K mg) {fA : Addr} {fd : FuncData} (F : Fun K "_law_check" "_law_check" s_law_check fA fd) (m : mg "_law_check" = some (.ref fA))  : Fn P w K mg base (L2.CX P w) 1 "_law_check" s_law_check fA fd ["_law_load"] (sp_law_check K mg) := by
  refine ⟨F.okX sc_law_check (fun vs H Q E h => h.1) (fun cdv A outer s H vs Q E hr h => ?_), m, F.kp, F.binds fun _ _ _ _ _ _ us hl => match us, hl with | [_], _ => rfl, F⟩
  have hu64 := hr.units
  obtain ⟨hlen, h⟩ := h
  refine ⟨_, (pss_cons (ps_set (i := 1) sc_law_check.nd rfl (Or.inr rfl) pe_int)
    (pss_cons (ps_for (passes_of rfl) rfl (pi_list (pv 0)) (pg_name (i := 2) sc_law_check.nd rfl (Or.inl rfl))
      (pss_one (ps_set (i := 1) sc_law_check.nd rfl (Or.inr rfl) (pe_op op_add (pe_op op_mul pe_int (pv 1)) (pv 2)))))
    (pss_cons (ps_set (i := 1) sc_law_check.nd rfl (Or.inr rfl) (pe_op op_mul pe_int (pv 1)))
    (pss_cons (ps_for (passes_of rfl) rfl (pi_range3 rfl Z.z_range (pa_cons (pe_op op_add (pe_callB (c_len K rfl) (by rfl) Z.z_len (by decide +kernel) (pa_cons (pv 0) pa_nil)) pe_int) (pa_cons pe_int (pa_cons (pe_un un_neg pe_int) pa_nil)))) (pg_name (i := 3) sc_law_check.nd rfl (Or.inl rfl))
      (pss_one (ps_if (pt_cmpR op_eq (pe_op o_and1 (pe_op op_shr (pv 1) (pv 3)) pe_int) pe_int (nomark _))
      (pss_one (ps_set (i := 1) sc_law_check.nd rfl (Or.inr rfl) (pe_op op_xor (pv 1) (pe_op op_shl pe_int (pe_op op_sub (pv 3) pe_int)))))
      pss_nil)))
    (pss_one (ps_ret (pe_lc (own := [("_law_place", 3)]) (g := gName 3) (tt := tYes) (by rfl) sc_law_check.nd (pi_range3 rfl Z.z_range (pa_cons pe_int (pa_cons (pe_un un_neg pe_int) (pa_cons (pe_un un_neg pe_int) pa_nil)))) (blkOk_by (own := [("_law_place", 3)]) (N := ["_law_load", "_law_number", "_law_bit", "_law_place"]) (sc := defScope s_law_check) (by decide +kernel)) (fun _ _ _ _ _ => (pg_name (i := 3) sc_law_check.nd rfl (Or.inl rfl))) (fun _ _ _ _ _ => pts_nil) (fun _ _ _ _ _ => (pe_op o_and1 (pe_op op_shr (pv 1) (pv 3)) pe_int))))))))), ?_⟩
  obtain ⟨a, l, rfl, hS, hl, hb, q⟩ := h
  walk_at "r"
  refine ⟨a, rfl, ⟨_, hS⟩, ?_⟩
  refine forL (xs := l.map V.int) (fun i σ H' => ∃ v, σ = [some (.ref a), some (.int (numL (l.take i))), v, none] ∧ H = H') ⟨_, rfl, rfl⟩ (fun i σ H' _ ⟨_, _, e⟩ => e ▸ hS) ?_ ?_
  · rintro i x σ H' hx ⟨v, rfl, rfl⟩
    rw [List.getElem?_map] at hx
    cases z : l[i]? with
    | none => rw [z] at hx; cases hx
    | some b =>
      rw [z] at hx
      cases hx
      have hi : i < l.length := (List.getElem?_eq_some_iff.mp z).1
      have et : l.take (i + 1) = l.take i ++ [b] := by
        rw [List.take_succ_eq_append_getElem hi]
        rw [List.getElem?_eq_getElem hi] at z
        rw [Option.some.inj z]
      have hv : 2 * numL (l.take i) + b = numL (l.take (i + 1)) := by rw [et, numL_snoc]
      walk_at "r"
      rw [hv]
      exact ⟨_, rfl, rfl⟩
  · rintro σ H' ⟨v, rfl, rfl⟩
    rw [List.length_map, List.take_length]
    walk_at "r"
    have e0 : 256 * numL l = ((DN (chk (l.take 0)) (l.drop 0) : Nat) : Int) := by
      rw [List.take_zero, List.drop_zero, numN_eq l hb]
      show _ = ((0 * 2 ^ l.length ^^^ 256 * numN l : Nat) : Int)
      rw [Nat.zero_mul, Nat.zero_xor]; simp
    rw [e0]
    refine ⟨_, _, _, 48, rfl, ?_, ?_⟩
    · have := RgC.neg (i := ((l.map V.int).length : Int) + 7) (j := 7) (by rw [List.length_map, hl]; decide) (by rw [List.length_map, hl]; decide) (by decide) (by decide)
      rw [show ((((l.map V.int).length : Nat) : Int) + 7 - 7).toNat = 48 by rw [List.length_map, hl]; decide] at this
      exact this
    refine forW walk_rangeC (fun i σ H' => ∃ v3, σ = [some (.ref a), some (.int ((DN (chk (l.take i)) (l.drop i) : Nat) : Int)), v, v3] ∧ H = H') ⟨_, rfl, rfl⟩ (fun _ _ _ _ _ => trivial) ?_ ?_
    · rintro i x σ H1 H2 hi ⟨v3, rfl, rfl⟩ ⟨rfl, rfl⟩
      have hil : i < l.length := by omega
      have ed : l.drop i = l[i] :: l.drop (i + 1) := List.drop_eq_getElem_cons hil
      have et : chk (l.take (i + 1)) = stp (chk (l.take i)) (l[i]).toNat := by rw [List.take_succ_eq_append_getElem hil]; exact cf_snoc _ _ _
      have hbi := hb l[i] (List.getElem_mem hil)
      have hbr : isBits (l.drop (i + 1)) := fun x hx => hb x (List.mem_of_mem_drop hx)
      have hln : (l.drop (i + 1)).length + 8 = 55 - i := by rw [List.length_drop]; omega
      have kb := DN_bit (chk_lt (l.take i)) hbi hbr
      have ks := DN_step (chk_lt (l.take i)) hbi hbr
      have ex : (((l.map V.int).length : Nat) : Int) + 7 + (i : Int) * -1 = ((55 - i : Nat) : Int) := by rw [List.length_map, hl]; omega
      rw [hln] at kb
      rw [← ed] at kb ks
      rw [← et] at ks
      dsimp only
      rw [ex]
      walk_at "r"
      refine ⟨rfl, ?_⟩
      walk_at "r"
      have ev : ((DN (chk (l.take i)) (l.drop i) : Nat) : Int) / 2 ^ (((55 - i : Nat) : Int)).toNat % 2 = ((DN (chk (l.take i)) (l.drop i) / 2 ^ (55 - i) % 2 : Nat) : Int) := by rw [Int.toNat_natCast]; simp
      rw [ev]
      refine ifd (fun h => ?_) (fun h => ?_)
      · have h' := kb.mp (by omega)
        walk_at "r"
        have e8 : ((55 - i : Nat) : Int) - 8 = ((47 - i : Nat) : Int) := by omega
        rw [e8]
        have exx : Builtin.bitXor ((DN (chk (l.take i)) (l.drop i) : Nat) : Int) (263 * 2 ^ (((47 - i : Nat) : Int)).toNat) = ((DN (chk (l.take (i + 1))) (l.drop (i + 1)) : Nat) : Int) := by
          rw [Bits.bitXor_pp (by omega) (Int.mul_nonneg (by decide) (Int.pow_nonneg (by decide))), Int.toNat_natCast, Int.toNat_natCast]
          congr 1
          rw [ks, if_pos h', List.length_drop, hl, show 48 - (i + 1) = 47 - i by omega]
          have : ((263 : Int) * 2 ^ (47 - i)).toNat = 263 * 2 ^ (47 - i) := by
            rw [show ((263 : Int) * 2 ^ (47 - i)) = ((263 * 2 ^ (47 - i) : Nat) : Int) by simp, Int.toNat_natCast]
          rw [this, Nat.xor_assoc, Nat.xor_self, Nat.xor_zero]
        rw [exx]
        exact ⟨_, rfl, rfl⟩
      · have h' := fun z => h (by have := kb.mpr z; omega)
        walk_at "r"
        rw [if_neg h', Nat.zero_mul, Nat.xor_zero] at ks
        rw [ks]
        exact ⟨_, rfl, rfl⟩
    · rintro σ H1 ⟨v3, rfl, rfl⟩
      rw [List.take_of_length_le (by omega), List.drop_of_length_le (by omega)]
      have ec : DN (chk l) [] = chk l := by simp [DN, numN]
      rw [ec]
      walk_at "r"
      refine ⟨_, _, _, 8, rfl, RgC.neg (i := 7) (j := -1) (by decide) (by decide) (by decide) (by decide), ?_⟩
      refine lcW walk_rangeC S0 (Same.refl H) (fun _ z => z.elim) (fun _ _ _ => trivial) (fun i acc F1 H1 => acc = ((fixL 8 (chk l)).map V.int).take i) (fun _ _ _ _ _ _ _ _ _ r => r) rfl ?_ ?_
      · rintro i x acc d F1 H1 H2 hi ⟨rfl, rfl⟩ hd nS st f0 e hl2 rr
        have ex : (7 : Int) + (i : Int) * -1 = ((7 - i : Nat) : Int) := by omega
        dsimp only
        rw [ex]
        walk_at "r"
        refine ⟨rfl, ?_⟩
        refine lc_end hd nS st f0 e hl2 (by omega) (.rfl' st.fh) ?_
        have ha := fixL_at 8 (chk l) i hi
        have h3 : i < ((fixL 8 (chk l)).map V.int).length := by rw [List.length_map, fixL_len]; exact hi
        rw [rr, List.take_succ_eq_append_getElem h3]
        congr 2
        have h4 : i < (fixL 8 (chk l)).length := by rw [fixL_len]; exact hi
        rw [List.getElem?_eq_getElem h4] at ha
        rw [List.getElem_map, Option.some.inj ha, Int.toNat_natCast]
        simp
      · intro d acc F0 F1 H1 st hd f0 ef st1 hl2 rr
        refine q d H1 st.same hd ?_
        rw [ef] at st1
        rw [st1.fh _ _ upd_same, rr, List.take_of_length_le (by rw [List.length_map, fixL_len]; exact Nat.le_refl _)]
abbrev s_law_sum : Stmt := topS 43
theorem sc_law_sum : FnScope ["_law_loads_here", "_law_at", "_law_load"] ["_law_loads_here"] (defScope s_law_sum) := ⟨rfl, rfl, rfl, by decide +kernel, rfl, by decide +kernel, by decide +kernel⟩
def Ok_law_sum (P : Program) (w : World) (K : PySem.W.Frag) (mg : Str → Option Value) (base : Heap) : Prop := ∃ fA fd, Fn P w K mg base (L2.CX P w) 1 "_law_sum" s_law_sum fA fd ["_law_loads_here"] (sp_law_sum K mg)
theorem okx_law_sum (Z : Zs K mg) {fA : Addr} {fd : FuncData} (F : Fun K "_law_sum" "_law_sum" s_law_sum fA fd) (m : mg "_law_sum" = some (.ref fA))  : Fn P w K mg base (L2.CX P w) 1 "_law_sum" s_law_sum fA fd ["_law_loads_here"] (sp_law_sum K mg) := by
  refine ⟨F.okX sc_law_sum (fun vs H Q E h => h.1) (fun cdv A outer s H vs Q E hr h => ?_), m, F.kp, F.binds fun _ _ _ _ _ _ us hl => match us, hl with | [_], _ => rfl, F⟩
  have hu64 := hr.units
  obtain ⟨hlen, h⟩ := h
  refine ⟨_, (pss_one (ps_ret (pe_lc (own := [("_law_at", 1)]) (g := gName 1) (tt := tYes) (by rfl) sc_law_sum.nd (pi_range1 rfl Z.z_range (pa_cons pe_int pa_nil)) (blkOk_by (own := [("_law_at", 1)]) (N := ["_law_loads_here", "_law_at", "_law_load"]) (sc := defScope s_law_sum) (by decide +kernel)) (fun _ _ _ _ _ => (pg_name (i := 1) sc_law_sum.nd rfl (Or.inr rfl))) (fun _ _ _ _ _ => pts_nil) (fun _ _ _ _ _ => (pe_op op_mod (pe_callB (c_sum K rfl rfl) (by rfl) Z.z_sum (by decide +kernel) (pa_cons (pe_lc (wi := iList K _) (own := [("_law_load", 2)]) (g := gName 2) (tt := tYes) (by rfl) sc_law_sum.nd (pi_list (pv 0)) (blkOk_by (own := [("_law_load", 2)]) (N := ["_law_loads_here", "_law_at", "_law_load"]) (sc := _) (by rfl)) (fun _ _ _ _ _ => (pg_name (i := 2) sc_law_sum.nd rfl (Or.inl rfl))) (fun _ _ _ _ _ => pts_nil) (fun _ _ _ _ _ => (pe_ix (i_list K rfl) (pv 2) (pv 1) (fun _ _ => rfl)))) pa_nil)) pe_int))))), ?_⟩
  obtain ⟨a, us, ls, rfl, hS, hR, hn, hL, q⟩ := h
  have hul := RL.len hR
  walk_at "r"
  refine ⟨_, rfl, by decide, by decide, ?_⟩
  refine lcW walk_range S0 (Same.refl H) (fun _ z => z.elim) (fun _ _ _ => trivial) (fun i acc F1 H1 => acc = ((sumC ls).map V.int).take i) (fun _ _ _ _ _ _ _ _ _ r => r) rfl ?_ ?_
  · rintro j x acc d F1 H1 H2 hj ⟨rfl, rfl⟩ hd nS st f0 e hl rr
    have hj : j < 48 := hj
    walk_at "r"
    refine ⟨a, rfl, ⟨_, st.same.seq hS⟩, ?_⟩
    refine lcW (walk_list (xs := us)) S0 st.fh (fun _ z => z.elim) (fun F2 H2 s2 => (st.same.trans s2.same).seq hS) (fun i acc F2 H2 => acc = ((ls.map fun l => l.getD j 0).map V.int).take i) (fun _ _ _ _ _ _ _ _ _ r => r) rfl ?_ ?_
    · rintro i x acc2 d2 F2 H2 H3 hi ⟨rfl, hx⟩ hd2 nS2 st2 f02 e2 hl2 rr2
      obtain ⟨b, l, rfl, hl1, hb1⟩ := RL.get hR i hx
      have hil : i < ls.length := (List.getElem?_eq_some_iff.mp hl1).1
      have l48 := (hL l (List.mem_of_getElem? hl1)).1
      have hjl : j < l.length := by omega
      walk_at "r"
      refine s_ixL (SqL.of ((st.same.trans st2.same) _ _ hb1)) (at_of (j := j) (by omega) (get_int hjl)) ?_
      refine lc_end hd2 nS2 st2 f02 e2 hl2 (by omega) (.rfl' st2.fh) ?_
      have h3 : i < ((ls.map fun l => l.getD j 0).map V.int).length := by simp; exact hil
      rw [rr2, List.take_succ_eq_append_getElem h3]
      rw [List.getElem?_eq_getElem hil] at hl1
      congr 2
      rw [List.getElem_map, List.getElem_map, Option.some.inj hl1, List.getD_eq_getElem?_getD, List.getElem?_eq_getElem hjl]
      rfl
    · intro d2 acc2 F2 F3 H3 st2 hd2 f02 ef2 st3 hl2 rr2
      rw [List.take_of_length_le (by simp [hul])] at rr2
      have hd3 : H3 d2 = some (.lst ((ls.map fun l => l.getD j 0).map V.int)) := by rw [← rr2]; rw [ef2] at st3; exact st3.fh _ _ upd_same
      walk_at "r"
      refine ⟨d2, _, rfl, SqL.of hd3, ?_⟩
      walk_at "r"
      refine lc_end hd nS st f0 e hl (by omega) st3 ?_
      have h4 : j < ((sumC ls).map V.int).length := by rw [List.length_map, sumC_len]; exact hj
      rw [rr, List.take_succ_eq_append_getElem h4]
      congr 2
      simp [sumC]
  · intro d acc F0 F1 H1 st hd f0 ef st1 hl rr
    refine q d H1 st.same hd ?_
    rw [ef] at st1
    rw [st1.fh _ _ upd_same, rr, List.take_of_length_le (by rw [List.length_map, sumC_len]; exact Nat.le_refl _)]
abbrev s_law_cells : Stmt := topS 44
theorem sc_law_cells : FnScope ["_law_loads_here", "_law_group", "_law_found", "_law_begin", "_law_some", "_law_load"] ["_law_loads_here", "_law_group"] (defScope s_law_cells) := ⟨rfl, rfl, rfl, by decide +kernel, rfl, by decide +kernel, by decide +kernel⟩
def Ok_law_cells (P : Program) (w : World) (K : PySem.W.Frag) (mg : Str → Option Value) (base : Heap) : Prop := ∃ fA fd, Fn P w K mg base (L2.CX P w) 2 "_law_cells" s_law_cells fA fd ["_law_loads_here", "_law_group"] (sp_law_cells K mg)
theorem okx_law_cells (Z : Zs K mg) {fA : Addr} {fd : FuncData} (F : Fun K "_law_cells" "_law_cells" s_law_cells fA fd) (m : mg "_law_cells" = some (.ref fA)) (C_law_sum : Ok_law_sum P w K mg base) (C_law_check : Ok_law_check P w K mg base) : Fn P w K mg base (L2.CX P w) 2 "_law_cells" s_law_cells fA fd ["_law_loads_here", "_law_group"] (sp_law_cells K mg) := by
  obtain ⟨_, _, C_law_sum⟩ := C_law_sum
  obtain ⟨_, _, C_law_check⟩ := C_law_check
  refine ⟨F.okX sc_law_cells (fun vs H Q E h => h.1) (fun cdv A outer s H vs Q E hr h => ?_), m, F.kp, F.binds fun _ _ _ _ _ _ us hl => match us, hl with | [_, _], _ => rfl, F⟩
  have hu64 := hr.units
  obtain ⟨hlen, h⟩ := h
  refine ⟨_, (pss_cons (ps_set (i := 2) sc_law_cells.nd rfl (Or.inl rfl) (pe_lst pa_nil))
    (pss_cons (ps_for (passes_of rfl) rfl (pi_range3 rfl Z.z_range (pa_cons pe_int (pa_cons (pe_callB (c_len K rfl) (by rfl) Z.z_len (by decide +kernel) (pa_cons (pv 0) pa_nil)) (pa_cons (pv 1) pa_nil)))) (pg_name (i := 3) sc_law_cells.nd rfl (Or.inl rfl))
      (pss_cons (ps_set (i := 4) sc_law_cells.nd rfl (Or.inl rfl) (pe_slice (l_list K rfl) (pv 0) (po_some (pv 3)) (po_some (pe_op op_add (pv 3) (pv 1)))))
    (pss_one (ps_for (passes_of rfl) rfl (pi_list (pe_op op_cat (pv 4) (pe_lst (pa_cons (pe_call C_law_sum.G (hr.mono (by decide)) rfl C_law_sum.m C_law_sum.kp C_law_sum.b .nil passL (pa_cons (pv 4) pa_nil)) pa_nil)))) (pg_name (i := 5) sc_law_cells.nd rfl (Or.inl rfl))
      (pss_one (ps_expr (pe_bm PySem.F.plainAttrs_list PySem.F.slot_list_append PySem.F.type_list_append mt_append (pv 2) (pa_cons (pe_op op_cat (pv 5) (pe_call C_law_check.G (hr.mono (by decide)) rfl C_law_check.m C_law_check.kp C_law_check.b .nil passL (pa_cons (pv 5) pa_nil))) pa_nil))))))))
    (pss_one (ps_ret (pv 2))))), ?_⟩
  obtain ⟨F, a, us, ls, g, rfl, hF, ha, hR, hn, hL, g1, g8, q⟩ := h
  have g0 : 0 < g := by omega
  have hul := RL.len hR
  walk_at "r"
  refine ⟨sz (by simp), fun f hf => ?_⟩
  have c1 := Stp.cell (S := S0) (o := .lst []) hF hf
  have h1 : upd H f (.lst []) f = some (.lst []) := upd_same
  have f0 : F f = none := hF.free hf
  generalize upd H f (.lst []) = H1 at c1 h1 ⊢
  walk_at "r"
  refine s_len (SqL.of (c1.fh _ _ ha)) ?_
  walk_at "r"
  have hcl := chunk_len g0 ls
  have hcb : (chunk g ls).length ≤ 1010 := by
    rw [hcl]; exact Nat.le_trans (Nat.div_le_self _ _) (by omega)
  have en : (((us.length : Nat) : Int) + (g : Int) - 1) / (g : Int) = (((chunk g ls).length : Nat) : Int) := by
    rw [hcl, Int.natCast_ediv]
    congr 1
    omega
  refine ⟨_, _, _, (chunk g ls).length, rfl, ?_, ?_⟩
  · have := rgc_up (L := ((us.length : Nat) : Int)) (k := (g : Int)) (by omega) (by omega) (by omega) (by omega)
    rw [en, Int.toNat_natCast] at this
    exact this
  refine forW walk_rangeC (fun i σ H' => ∃ v3 v4 v5 Fi accs, σ = [some (.ref a), some (.int g), some (.ref f), v3, v4, v5] ∧ Stp S0 F H Fi H' ∧ Fi f = none ∧ H' f = some (.lst accs) ∧ RL Fi accs (((chunk g ls).take i).map grpC).flatten ∧ accs.length ≤ 9 * i)
    ⟨_, _, _, F, [], rfl, c1, f0, h1, .nil, by simp⟩ (fun _ _ _ _ _ => trivial) ?_ ?_
  · rintro i x σ H0' H2 hi ⟨v3, v4, v5, Fi, accs, rfl, st, fi, h2, rl, al⟩ ⟨rfl, rfl⟩
    have ei : (0 : Int) + (i : Int) * (g : Int) = ((i * g : Nat) : Int) := by simp
    have ej : ((i * g : Nat) : Int) + (g : Int) = ((i * g + g : Nat) : Int) := by simp
    dsimp only; rw [ei]
    walk_at "r"
    rw [ej]
    have ha2 := st.fh _ _ (st.ff _ _ ha)
    refine s_slL (SqL.of ha2) fun w hw => ?_
    rw [cutV_nat, show i * g + g - i * g = g by omega]
    obtain ⟨s, hs⟩ : ∃ s, (chunk g ls)[i]? = some s := ⟨_, List.getElem?_eq_getElem hi⟩
    have hs2 := hs
    rw [chunk_get g0 _ i hi] at hs2
    have hsm := List.mem_of_getElem? hs
    have slen : s.length ≤ g := by rw [← Option.some.inj hs2, List.length_take]; omega
    have ldg := grp_ok g0 hL s hsm
    have rls : RL Fi ((us.drop (i * g)).take g) s := by
      rw [← Option.some.inj hs2]
      exact LV.mono st.ff (RL.take _ (RL.drop _ hR))
    generalize (us.drop (i * g)).take g = l at rls ⊢
    have lls := RL.len rls
    have s3 := Stp.new (S := S0) (o := .lst l) st.fh hw
    have h3 : upd Fi w (.lst l) w = some (.lst l) := upd_same
    have f3 : upd Fi w (.lst l) f = none := (s3.fo _ _ h2).trans fi
    have h23 := s3.same _ _ h2
    have st3 := st.trans s3
    have rl3 := LV.mono s3.ff rl
    have rls3 := LV.mono s3.ff rls
    clear s3 rl rls st
    generalize upd Fi w (.lst l) = F3 at *
    generalize upd H2 w (.lst l) = H3 at *
    walk_at "r"
    refine ⟨rfl, w, l, s, rfl, SqL.of (st3.fh _ _ h3), LV.mono st3.fh rls3, by omega, fun l hl => ldg l (List.mem_append_left _ hl), fun u H4 e4 u0 hu => ?_⟩
    have s4 := Stp.got (S := S0) st3.fh e4 u0 hu
    have h4u : upd F3 u (.lst ((sumC s).map V.int)) u = some (.lst ((sumC s).map V.int)) := upd_same
    have f4 : upd F3 u (.lst ((sumC s).map V.int)) f = none := (s4.fo _ _ h23).trans f3
    have h24 := s4.same _ _ h23
    have st4 := st3.trans s4
    have rl4 := LV.mono s4.ff rl3
    have rls4 := LV.mono s4.ff rls3
    have h34 := s4.ff _ _ h3
    clear s4 rl3 rls3 st3
    generalize upd F3 u (.lst ((sumC s).map V.int)) = F4 at *
    walk_at "r"
    refine ⟨sz (by simp), fun y hy => ?_⟩
    have e5 : Same H4 (upd H4 y (.lst [.ref u])) := (Stp.new (S := S0) (Same.refl _) hy).same
    have h5 : upd H4 y (.lst [.ref u]) y = some (.lst [.ref u]) := upd_same
    generalize upd H4 y (.lst [.ref u]) = H5 at e5 h5 ⊢
    walk_at "r"
    refine ⟨_, _, _, _, rfl, rfl, e5 _ _ (st4.fh _ _ h34), h5, sz (by rw [lls, List.length_singleton]; omega), fun c2 hc2 => ?_⟩
    have s6 := (Stp.ofSame (S := S0) st4.fh e5).trans (Stp.new (S := S0) (o := .lst (l ++ [.ref u])) (st4.fh.trans e5) hc2)
    have h6 : upd F4 c2 (.lst (l ++ [.ref u])) c2 = some (.lst (l ++ [.ref u])) := upd_same
    have f6 : upd F4 c2 (.lst (l ++ [.ref u])) f = none := (s6.fo _ _ h24).trans f4
    have h26 := s6.same _ _ h24
    have st6 := st4.trans s6
    have rl6 := LV.mono s6.ff rl4
    have rlc : RL (upd F4 c2 (.lst (l ++ [.ref u]))) (l ++ [.ref u]) (s ++ [sumC s]) := LV.mono s6.ff (RL.snoc rls4 h4u)
    clear s6 rl4 rls4 st4
    generalize upd F4 c2 (.lst (l ++ [.ref u])) = F6 at *
    generalize upd H5 c2 (.lst (l ++ [.ref u])) = H6 at *
    walk_at "r"
    refine ⟨c2, rfl, ⟨_, SqL.of (st6.fh _ _ h6)⟩, ?_⟩
    refine forL (xs := l ++ [.ref u]) (fun j σ H' => ∃ v5 Fj bccs, σ = [some (.ref a), some (.int g), some (.ref f), some (.int ((i * g : Nat) : Int)), some (.ref w), v5] ∧ Same F6 Fj ∧ Stp S0 F H Fj H' ∧ Fj f = none ∧ H' f = some (.lst bccs) ∧ RL Fj bccs ((((chunk g ls).take i).map grpC).flatten ++ ((s ++ [sumC s]).take j).map cellC) ∧ bccs.length ≤ 9 * i + j)
      ⟨_, F6, accs, rfl, Same.refl _, st6, f6, h26, by rw [List.take_zero, List.map_nil, List.append_nil]; exact rl6, by omega⟩ (fun j σ H' _ ⟨_, _, _, _, s, s', _⟩ => SqL.of (s'.fh _ _ (s _ _ h6))) ?_ ?_
    · rintro j x σ H7 hx ⟨v5, Fj, bccs, rfl, e67, st7, f7, h7, rl7, bl⟩
      obtain ⟨b3, l3, rfl, hl3, hb3⟩ := RL.get rlc j hx
      have ld3 := ldg l3 (List.mem_of_getElem? hl3)
      have hj : j < (s ++ [sumC s]).length := (List.getElem?_eq_some_iff.mp hl3).1
      have hj9 : j ≤ 8 := by rw [List.length_append, List.length_singleton] at hj; omega
      have hb7 := st7.fh _ _ (e67 _ _ hb3)
      walk_at "r"
      refine ⟨.inl ⟨rfl, _, SqL.of h7⟩, ?_⟩
      walk_at "r"
      refine ⟨rfl, b3, l3, rfl, SqL.of hb7, ld3.1, ld3.2, fun k H8 e8 k0 hk => ?_⟩
      refine ⟨_, _, _, _, rfl, rfl, e8 _ _ hb7, hk, sz (by rw [List.length_map, List.length_map, ld3.1, fixL_len]; decide), fun z hz => ?_⟩
      have ec : l3.map V.int ++ (fixL 8 (chk l3)).map V.int = (cellC l3).map V.int := by rw [cellC, List.map_append]
      rw [ec]
      have s9 := (Stp.ofSame (S := S0) st7.fh e8).trans (Stp.new (S := S0) (o := .lst ((cellC l3).map V.int)) (st7.fh.trans e8) hz)
      have h9 : upd Fj z (.lst ((cellC l3).map V.int)) z = some (.lst ((cellC l3).map V.int)) := upd_same
      have f9 : upd Fj z (.lst ((cellC l3).map V.int)) f = none := (s9.fo _ _ h7).trans f7
      have h79 := s9.same _ _ h7
      have st9 := st7.trans s9
      have rl9 := RL.snoc (LV.mono s9.ff rl7) h9
      have e69 := e67.trans s9.ff
      clear s9
      generalize upd Fj z (.lst ((cellC l3).map V.int)) = F9 at *
      generalize upd H8 z (.lst ((cellC l3).map V.int)) = H9 at *
      walk_at "r"
      refine ⟨f, _, _, rfl, rfl, h79, Nat.lt_of_lt_of_le (m := 100000) (by omega) (by decide), ?_⟩
      refine ⟨_, F9, bccs ++ [.ref z], rfl, e69, st9.wrNew hf f9, f9, upd_same, ?_, by rw [List.length_append, List.length_singleton]; omega⟩
      rw [List.getElem?_eq_getElem hj] at hl3
      rw [List.take_succ_eq_append_getElem hj, List.map_append, ← List.append_assoc, Option.some.inj hl3]
      exact rl9
    · rintro σ H7 ⟨v5, Fj, bccs, rfl, e67, st7, f7, h7, rl7, bl⟩
      have et : (s ++ [sumC s]).take (l ++ [V.ref u]).length = s ++ [sumC s] := List.take_of_length_le (by rw [List.length_append, List.length_append, lls]; exact Nat.le_refl _)
      rw [et] at rl7
      rw [List.length_append, List.length_singleton, lls] at bl
      refine ⟨_, _, _, Fj, bccs, rfl, st7, f7, h7, ?_, by omega⟩
      rw [List.getElem?_eq_getElem hi] at hs
      rw [List.take_succ_eq_append_getElem hi, List.map_append, List.flatten_append, Option.some.inj hs]
      rw [show (List.map grpC [s]).flatten = grpC s by simp]
      exact rl7
  · rintro σ H2 ⟨v3, v4, v5, Fi, accs, rfl, st, fi, h2, rl, al⟩
    rw [List.take_length] at rl
    walk_at "r"
    have s3 := st.freeze hf h2 fi
    refine q f _ H2 accs s3 upd_same (LV.mono (fun b o h => ?_) rl)
    rw [upd_ne (ne_of_none h fi)]; exact h
abbrev s_law_loads : Stmt := topS 45
theorem sc_law_loads : FnScope ["_law_told", "_law_whole", "_law_at"] ["_law_told"] (defScope s_law_loads) := ⟨rfl, rfl, rfl, by decide +kernel, rfl, by decide +kernel, by decide +kernel⟩
def Ok_law_loads (P : Program) (w : World) (K : PySem.W.Frag) (mg : Str → Option Value) (base : Heap) : Prop := ∃ fA fd, Fn P w K mg base (L2.CX P w) 1 "_law_loads" s_law_loads fA fd ["_law_told"] (sp_law_loads K mg)
theorem okx_law_loads (Z : Zs K mg) {fA : Addr} {fd : FuncData} (F : Fun K "_law_loads" "_law_loads" s_law_loads fA fd) (m : mg "_law_loads" = some (.ref fA))  : Fn P w K mg base (L2.CX P w) 1 "_law_loads" s_law_loads fA fd ["_law_told"] (sp_law_loads K mg) := by
  refine ⟨F.okX sc_law_loads (fun vs H Q E h => h.1) (fun cdv A outer s H vs Q E hr h => ?_), m, F.kp, F.binds fun _ _ _ _ _ _ us hl => match us, hl with | [_], _ => rfl, F⟩
  have hu64 := hr.units
  obtain ⟨hlen, h⟩ := h
  refine ⟨_, (pss_cons (ps_set (i := 1) sc_law_loads.nd rfl (Or.inr rfl) (pe_op op_cat (pv 0) (pe_op op_rep (pe_lst (pa_cons pe_int pa_nil)) (pe_op op_mod (pe_un un_neg (pe_callB (c_len K rfl) (by rfl) Z.z_len (by decide +kernel) (pa_cons (pv 0) pa_nil))) pe_int))))
    (pss_one (ps_ret (pe_lc (own := [("_law_at", 2)]) (g := gName 2) (tt := tYes) (by rfl) sc_law_loads.nd (pi_range3 rfl Z.z_range (pa_cons pe_int (pa_cons (pe_callB (c_len K rfl) (by rfl) Z.z_len (by decide +kernel) (pa_cons (pv 1) pa_nil)) (pa_cons pe_int pa_nil)))) (blkOk_by (own := [("_law_at", 2)]) (N := ["_law_told", "_law_whole", "_law_at"]) (sc := defScope s_law_loads) (by decide +kernel)) (fun _ _ _ _ _ => (pg_name (i := 2) sc_law_loads.nd rfl (Or.inl rfl))) (fun _ _ _ _ _ => pts_nil) (fun _ _ _ _ _ => (pe_slice (l_list K rfl) (pv 1) (po_some (pv 2)) (po_some (pe_op op_add (pv 2) pe_int)))))))), ?_⟩
  obtain ⟨F, a, t, rfl, hF, ha, hn, q⟩ := h
  have ha1 := hF _ _ ha
  walk_at "r"
  refine ⟨sz (by simp), fun b hb => ?_⟩
  have e3 : Same H (upd H b (.lst [.int 0])) := (Stp.new (S := S0) (Same.refl _) hb).same
  have h3 : upd H b (.lst [.int 0]) b = some (.lst [.int 0]) := upd_same
  generalize upd H b (.lst [.int 0]) = H3 at e3 h3 ⊢
  replace ha1 := e3 _ _ ha1
  walk_at "r"
  refine s_rep h3 (by omega) (by omega) fun b2 hb2 => ?_
  have ek : (-(((t.map V.int).length : Nat) : Int) % 48).toNat = (48 - t.length % 48) % 48 := by rw [List.length_map]; omega
  rw [ek]
  have e4 : Same H3 (upd H3 b2 (.lst (List.replicate ((48 - t.length % 48) % 48) (V.int 0)))) := (Stp.new (S := S0) (Same.refl _) hb2).same
  have h4 : upd H3 b2 (.lst (List.replicate ((48 - t.length % 48) % 48) (V.int 0))) b2 = some (.lst (List.replicate ((48 - t.length % 48) % 48) (V.int 0))) := upd_same
  generalize upd H3 b2 (.lst (List.replicate ((48 - t.length % 48) % 48) (V.int 0))) = H4 at e4 h4 ⊢
  replace ha1 := e4 _ _ ha1
  walk_at "r"
  have ep : t.map V.int ++ List.replicate ((48 - t.length % 48) % 48) (V.int 0) = (padC t).map V.int := by rw [padC, List.map_append, List.map_replicate]
  have hpl : (padC t).length ≤ 2100 := by rw [padC_length]; omega
  refine ⟨_, _, _, _, rfl, rfl, ha1, h4, sz (by rw [List.length_map, List.length_replicate]; omega), fun w hw => ?_⟩
  rw [ep]
  have e5 : Same H4 (upd H4 w (.lst ((padC t).map V.int))) := (Stp.new (S := S0) (Same.refl _) hw).same
  have h5 : upd H4 w (.lst ((padC t).map V.int)) w = some (.lst ((padC t).map V.int)) := upd_same
  generalize upd H4 w (.lst ((padC t).map V.int)) = H5 at e5 h5 ⊢
  have e05 : Same H H5 := e3.trans (e4.trans e5)
  walk_at "r"
  have en : ((((padC t).map V.int).length : Nat) : Int) + (48 : Int) - 1 = (((padC t).length + 48 - 1 : Nat) : Int) := by rw [List.length_map]; omega
  have hcl := chunk_len (k := 48) (by decide) (padC t)
  refine ⟨_, _, _, (chunk 48 (padC t)).length, rfl, ?_, ?_⟩
  · have := rgc_up (L := ((((padC t).map V.int).length : Nat) : Int)) (k := 48) (by omega) (by rw [List.length_map]; omega) (by decide) (by decide)
    rw [en, show (((padC t).length + 48 - 1 : Nat) : Int) / 48 = (((chunk 48 (padC t)).length : Nat) : Int) by rw [hcl]; simp, Int.toNat_natCast] at this
    exact this
  have hs5 : Stp S0 F H F H5 := .ofSame hF e05
  refine lcW walk_rangeC S0 hs5.fh (fun _ z => z.elim) (fun _ _ _ => trivial) (fun i acc F1 H1 => RL F1 acc ((chunk 48 (padC t)).take i)) (fun _ _ _ _ _ _ _ _ _ r => r) .nil ?_ ?_
  · rintro i x acc d F1 H1 H2 hi ⟨rfl, rfl⟩ hd nS st f0 e hl rr
    have ei : (0 : Int) + (i : Int) * 48 = ((i * 48 : Nat) : Int) := by simp
    have ej : ((i * 48 : Nat) : Int) + 48 = ((i * 48 + 48 : Nat) : Int) := by simp
    dsimp only; rw [ei]
    walk_at "r"
    rw [ej]
    refine s_slL (st.same.seq (SqL.of h5)) fun p hp => ?_
    rw [cutV_nat, show i * 48 + 48 - i * 48 = 48 by omega, ← List.map_drop, ← List.map_take]
    have s4 := Stp.new (S := S0) (o := .lst ((((padC t).drop (i * 48)).take 48).map V.int)) st.fh hp
    refine lc_end hd nS st f0 e hl (by omega) s4 ?_
    have hg := chunk_get (by decide) (padC t) i hi
    rw [List.take_succ_eq_append_getElem hi]
    rw [List.getElem?_eq_getElem hi] at hg
    rw [Option.some.inj hg]
    exact RL.snoc (LV.mono s4.ff rr) upd_same
  · intro d acc F0 F1 H1 st hd f0 ef st1 hl rr
    rw [List.take_length] at rr
    refine q d F1 H1 acc (hs5.trans st1) (by rw [ef]; exact upd_same) (LV.mono ?_ rr)
    rw [ef]
    exact (Stp.new (S := S0) (Same.refl F0) f0).ff
abbrev s_law_joined : Stmt := topS 46
theorem sc_law_joined : FnScope ["_law_cells_here", "_law_found", "_law_cell"] ["_law_cells_here"] (defScope s_law_joined) := ⟨rfl, rfl, rfl, by decide +kernel, rfl, by decide +kernel, by decide +kernel⟩
def Ok_law_joined (P : Program) (w : World) (K : PySem.W.Frag) (mg : Str → Option Value) (base : Heap) : Prop := ∃ fA fd, Fn P w K mg base (L2.CX P w) 1 "_law_joined" s_law_joined fA fd ["_law_cells_here"] (sp_law_joined K mg)
theorem okx_law_joined (Z : Zs K mg) {fA : Addr} {fd : FuncData} (F : Fun K "_law_joined" "_law_joined" s_law_joined fA fd) (m : mg "_law_joined" = some (.ref fA))  : Fn P w K mg base (L2.CX P w) 1 "_law_joined" s_law_joined fA fd ["_law_cells_here"] (sp_law_joined K mg) := by
  refine ⟨F.okX sc_law_joined (fun vs H Q E h => h.1) (fun cdv A outer s H vs Q E hr h => ?_), m, F.kp, F.binds fun _ _ _ _ _ _ us hl => match us, hl with | [_], _ => rfl, F⟩
  have hu64 := hr.units
  obtain ⟨hlen, h⟩ := h
  refine ⟨_, (pss_cons (ps_set (i := 1) sc_law_joined.nd rfl (Or.inl rfl) (pe_lst pa_nil))
    (pss_cons (ps_for (passes_of rfl) rfl (pi_list (pv 0)) (pg_name (i := 2) sc_law_joined.nd rfl (Or.inl rfl))
      (pss_one (ps_expr (pe_bm PySem.F.plainAttrs_list PySem.F.slot_list_extend PySem.F.type_list_extend mt_extend (pv 1) (pa_cons (pv 2) pa_nil)))))
    (pss_one (ps_ret (pv 1))))), ?_⟩
  obtain ⟨a, us, ls, rfl, hS, hR, hn, hL, q⟩ := h
  walk_at "r"
  refine ⟨sz (by simp), fun f hf => ?_⟩
  have c1 := Stp.cell (S := S0) (o := .lst []) (Same.refl H) hf
  have h1 : upd H f (.lst []) f = some (.lst []) := upd_same
  have e1 : Same H (upd H f (.lst [])) := c1.same
  generalize upd H f (.lst []) = H1 at e1 h1 ⊢
  walk_at "r"
  refine ⟨a, rfl, ⟨_, e1.seq hS⟩, ?_⟩
  refine forL (xs := us) (fun i σ H' => ∃ v, σ = [some (.ref a), some (.ref f), v] ∧ Same H H' ∧ H' f = some (.lst ((ls.take i).flatten.map V.int))) ⟨_, rfl, e1, by rw [h1]; simp⟩ (fun i σ H' _ ⟨_, _, s, _⟩ => s.seq hS) ?_ ?_
  · rintro i x σ H' hx ⟨v, rfl, e2, h2⟩
    obtain ⟨b, l, rfl, hl1, hb1⟩ := RL.get hR i hx
    have hi : i < ls.length := (List.getElem?_eq_some_iff.mp hl1).1
    have fl := flat_len (k := 56) (ls.take i) (fun b hb => hL b (List.mem_of_mem_take hb))
    rw [List.length_take] at fl
    have l56 := hL l (List.mem_of_getElem? hl1)
    walk_at "r"
    refine ⟨.inl ⟨rfl, _, SqL.of h2⟩, ?_⟩
    walk_at "r"
    refine ⟨f, b, _, _, rfl, rfl, h2, e2 _ _ hb1, Nat.le_trans (m := 100000) (by rw [List.length_map, List.length_map, fl, l56]; omega) (by decide), ?_⟩
    refine ⟨_, rfl, fun b' o' h' => ?_, ?_⟩
    · rw [upd_ne (ne_of_none h' hf)]; exact e2 _ _ h'
    · rw [List.getElem?_eq_getElem hi] at hl1
      rw [upd_same, List.take_succ_eq_append_getElem hi, List.flatten_append, Option.some.inj hl1]; simp
  · rintro σ H' ⟨v, rfl, e2, h2⟩
    walk_at "r"
    refine q f H' e2 hf ?_
    rw [h2, RL.len hR, List.take_length]
abbrev s_law_bits : Stmt := topS 47
theorem sc_law_bits : FnScope ["_law_source", "_law_cells_here", "_law_figures", "_law_many", "_law_found", "_law_rest", "_law_at"] ["_law_source"] (defScope s_law_bits) := ⟨rfl, rfl, rfl, by decide +kernel, rfl, by decide +kernel, by decide +kernel⟩
def Ok_law_bits (P : Program) (w : World) (K : PySem.W.Frag) (mg : Str → Option Value) (base : Heap) : Prop := ∃ fA fd, Fn P w K mg base (L2.CX P w) 2 "_law_bits" s_law_bits fA fd ["_law_source"] (sp_law_bits K mg)
theorem okx_law_bits (Z : Zs K mg) {fA : Addr} {fd : FuncData} (F : Fun K "_law_bits" "_law_bits" s_law_bits fA fd) (m : mg "_law_bits" = some (.ref fA)) (C_law_take : Ok_law_take P w K mg base) (C_law_count : Ok_law_count P w K mg base) : Fn P w K mg base (L2.CX P w) 2 "_law_bits" s_law_bits fA fd ["_law_source"] (sp_law_bits K mg) := by
  obtain ⟨_, _, C_law_take⟩ := C_law_take
  obtain ⟨_, _, C_law_count⟩ := C_law_count
  refine ⟨F.okX sc_law_bits (fun vs H Q E h => h.1) (fun cdv A outer s H vs Q E hr h => ?_), m, F.kp, F.binds fun _ _ _ _ _ _ us hl => match us, hl with | [_], _ => rfl, F⟩
  have hu64 := hr.units
  obtain ⟨hlen, h⟩ := h
  refine ⟨_, (pss_cons (ps_set (i := 1) sc_law_bits.nd rfl (Or.inl rfl) (pe_op op_add pe_int (pe_call C_law_take.G (hr.mono (by decide)) rfl C_law_take.m C_law_take.kp C_law_take.b .nil passL (pa_cons (pv 0) (pa_cons pe_int pa_nil)))))
    (pss_cons (ps_set (i := 2) sc_law_bits.nd rfl (Or.inl rfl) (pe_callB (c_len K rfl) (by rfl) Z.z_len (by decide +kernel) (pa_cons (pe_call C_law_count.G (hr.mono (by decide)) rfl C_law_count.m C_law_count.kp C_law_count.b .nil passL (pa_cons (pe_op op_mul pe_int (pv 1)) pa_nil)) pa_nil)))
    (pss_cons (ps_set (i := 3) sc_law_bits.nd rfl (Or.inl rfl) (pe_op op_sub (pe_op op_add (pe_op op_sub (pe_op op_mul pe_int (pv 1)) (pv 2)) (pe_call C_law_take.G (hr.mono (by decide)) rfl C_law_take.m C_law_take.kp C_law_take.b .nil passL (pa_cons (pv 0) (pa_cons pe_int pa_nil)))) pe_int))
    (pss_cons (ps_set (i := 3) sc_law_bits.nd rfl (Or.inl rfl) (pe_ifExp (pt_cmpR op_eq (pe_call C_law_take.G (hr.mono (by decide)) rfl C_law_take.m C_law_take.kp C_law_take.b .nil passL (pa_cons (pv 0) (pa_cons pe_int pa_nil))) pe_int (nomark _)) pe_int (pv 3)))
    (pss_cons (ps_par (i := 4) (j := 5) (by rfl) sc_law_bits.nd rfl rfl (by decide) rfl rfl (pa_cons (pe_lst pa_nil) (pa_cons pe_int pa_nil)) (by rfl))
    (pss_cons (ps_for (passes_of rfl) rfl (pi_range1 rfl Z.z_range (pa_cons (pv 3) pa_nil)) (pg_name (i := 6) sc_law_bits.nd rfl (Or.inl rfl))
      (pss_cons (ps_if (pt_cmpR op_eq (pe_op op_mod (pv 6) pe_int) pe_int (nomark _))
      (pss_one (ps_set (i := 5) sc_law_bits.nd rfl (Or.inl rfl) (pe_call C_law_take.G (hr.mono (by decide)) rfl C_law_take.m C_law_take.kp C_law_take.b .nil passL (pa_cons (pv 0) (pa_cons pe_int pa_nil)))))
      pss_nil)
    (pss_cons (ps_expr (pe_bm PySem.F.plainAttrs_list PySem.F.slot_list_append PySem.F.type_list_append mt_append (pv 4) (pa_cons (pe_op op_mod (pv 5) pe_int) pa_nil)))
    (pss_one (ps_set (i := 5) sc_law_bits.nd rfl (Or.inl rfl) (pe_op op_fdiv (pv 5) pe_int))))))
    (pss_one (ps_ret (pv 4))))))))), ?_⟩
  obtain ⟨F, p, rfl, hs, q⟩ := h
  walk_at "r"
  refine ⟨rfl, F, p, _, rfl, hs, by decide, by decide, fun r1 H1 s1 t1 r10 r11 => ?_⟩
  walk_at "r"
  refine ⟨rfl, (48 * (1 + r1)).toNat, by simp; omega, by omega, fun c H2 e2 c0 hc => ?_⟩
  have hcs := countL_short (n := (48 * (1 + r1)).toNat) (by omega)
  obtain ⟨fg, hfg⟩ : ∃ fg : Nat, ((countL (48 * (1 + r1)).toNat).map V.int).length = fg := ⟨_, rfl⟩
  have hfg2 : fg ≤ 17 := by rw [← hfg, List.length_map]; exact hcs
  have s2 := s1.of e2
  have t2 : Stp (S1 p) F H F H2 := t1.trans (.ofSame s1.1 e2)
  walk_at "r"
  rw [hfg]
  refine ⟨rfl, F, p, _, rfl, s2, by decide, by decide, fun r2 H3 s3 t3 r20 r21 => ?_⟩
  have t3 := t2.trans t3
  walk_at "r"
  refine ⟨rfl, F, p, _, rfl, s3, by decide, by decide, fun r3 H4 s4 t4 r30 r31 => ?_⟩
  have t4 := t3.trans t4
  walk_at "r"
  refine ifd (fun h3 => ?_) (fun h3 => ?_)
  · walk_at "r"
    refine ⟨sz (by simp), fun f hf => ?_⟩
    have cf := Stp.cell (S := S1 p) (o := .lst []) s4.1 hf
    have s5 := s4.upd (o := .lst []) (fun z => by obtain ⟨o, e⟩ := s4.dom; rw [← z, hf] at e; cases e) (s4.1.free hf)
    have h5 : upd H4 f (.lst []) f = some (.lst []) := upd_same
    have fF : F f = none := s4.1.free hf
    have f0 : H f = none := by
      cases e : H f with
      | none => rfl
      | some o =>
        obtain ⟨o', e'⟩ := t4.dom f o e
        rw [hf] at e'; cases e'
    have nfp : f ≠ p := fun z => by obtain ⟨o, e⟩ := s4.dom; rw [← z, hf] at e; cases e
    have t5 := t4.trans cf
    clear cf
    generalize upd H4 f (.lst []) = H5 at s5 h5 t5 ⊢
    walk_at "r"
    refine ⟨_, rfl, by omega, by omega, ?_⟩
    have hm : (0 : Int).toNat ≤ 400 := by omega
    refine forR (fun i σ H' => ∃ v6 rest bs, σ = [some (.ref p), some (.int (1 + r1)), some (.int fg), some (.int (0 : Int)), some (.ref f), some (.int rest), v6] ∧ Src F H' p ∧ Stp (S1 p) F H F H' ∧ H' f = some (.lst (bs.map V.int)) ∧ bs.length = i ∧ isBits bs) ⟨_, 0, [], rfl, s5, t5, h5, rfl, fun _ h => by cases h⟩ ?_ ?_
    · rintro i σ H6 hi ⟨v6, rest, bs, rfl, s6, t6, h6, bl, bb⟩
      have fin : ∀ (rest : Int) H7, Src F H7 p → Stp (S1 p) F H F H7 → H7 f = some (.lst (bs.map V.int)) → ∃ v6 rest' bs', ([some (.ref p), some (.int (1 + r1)), some (.int fg), some (.int (0 : Int)), some (.ref f), some (.int (rest / 2)), some (.int (0 + (i : Int)))] : L2.St) = [some (.ref p), some (.int (1 + r1)), some (.int fg), some (.int (0 : Int)), some (.ref f), some (.int rest'), v6] ∧ Src F (upd H7 f (.lst (bs.map V.int ++ [.int (rest % 2)]))) p ∧ Stp (S1 p) F H F (upd H7 f (.lst (bs.map V.int ++ [.int (rest % 2)]))) ∧ upd H7 f (.lst (bs.map V.int ++ [.int (rest % 2)])) f = some (.lst (bs'.map V.int)) ∧ bs'.length = i + 1 ∧ isBits bs' := fun rest H7 s7 t7 h7 =>
        ⟨_, _, bs ++ [rest % 2], rfl, s7.upd nfp fF, t7.wrNew f0 fF, by rw [upd_same]; simp, by simp [bl], fun x hx => by
          rcases List.mem_append.mp hx with hx | hx
          · exact bb x hx
          · rw [List.mem_singleton.mp hx]; unfold isBit; omega⟩
      walk_at "r"
      refine ifd (fun h => ?_) (fun h => ?_)
      · walk_at "r"
        refine ⟨rfl, F, p, _, rfl, s6, by decide, by decide, fun r5 H7 s7 t7 r50 r51 => ?_⟩
        have h7 := t7.keep _ _ (fun z => nfp z) h6
        walk_at "r"
        refine ⟨.inl ⟨rfl, _, SqL.of h7⟩, ?_⟩
        walk_at "r"
        refine ⟨f, _, _, rfl, rfl, h7, Nat.lt_of_lt_of_le (m := 10000) (by rw [List.length_map]; omega) (by decide), ?_⟩
        walk_at "r"
        exact fin r5 H7 s7 (t6.trans t7) h7
      · walk_at "r"
        refine ⟨.inl ⟨rfl, _, SqL.of h6⟩, ?_⟩
        walk_at "r"
        refine ⟨f, _, _, rfl, rfl, h6, Nat.lt_of_lt_of_le (m := 10000) (by rw [List.length_map]; omega) (by decide), ?_⟩
        walk_at "r"
        exact fin rest H6 s6 t6 h6
    · rintro σ H6 ⟨v6, rest, bs, rfl, s6, t6, h6, bl, bb⟩
      walk_at "r"
      have t7 := t6.freeze f0 h6 fF
      exact q f bs _ H6 (s6.frz nfp.symm t7.fh) t7 upd_same bb (by omega)
  · walk_at "r"
    refine ⟨sz (by simp), fun f hf => ?_⟩
    have cf := Stp.cell (S := S1 p) (o := .lst []) s4.1 hf
    have s5 := s4.upd (o := .lst []) (fun z => by obtain ⟨o, e⟩ := s4.dom; rw [← z, hf] at e; cases e) (s4.1.free hf)
    have h5 : upd H4 f (.lst []) f = some (.lst []) := upd_same
    have fF : F f = none := s4.1.free hf
    have f0 : H f = none := by
      cases e : H f with
      | none => rfl
      | some o =>
        obtain ⟨o', e'⟩ := t4.dom f o e
        rw [hf] at e'; cases e'
    have nfp : f ≠ p := fun z => by obtain ⟨o, e⟩ := s4.dom; rw [← z, hf] at e; cases e
    have t5 := t4.trans cf
    clear cf
    generalize upd H4 f (.lst []) = H5 at s5 h5 t5 ⊢
    walk_at "r"
    refine ⟨_, rfl, by omega, by omega, ?_⟩
    have hm : (48 * (1 + r1) - (fg : Int) + r2 - 2).toNat ≤ 400 := by omega
    refine forR (fun i σ H' => ∃ v6 rest bs, σ = [some (.ref p), some (.int (1 + r1)), some (.int fg), some (.int (48 * (1 + r1) - (fg : Int) + r2 - 2)), some (.ref f), some (.int rest), v6] ∧ Src F H' p ∧ Stp (S1 p) F H F H' ∧ H' f = some (.lst (bs.map V.int)) ∧ bs.length = i ∧ isBits bs) ⟨_, 0, [], rfl, s5, t5, h5, rfl, fun _ h => by cases h⟩ ?_ ?_
    · rintro i σ H6 hi ⟨v6, rest, bs, rfl, s6, t6, h6, bl, bb⟩
      have fin : ∀ (rest : Int) H7, Src F H7 p → Stp (S1 p) F H F H7 → H7 f = some (.lst (bs.map V.int)) → ∃ v6 rest' bs', ([some (.ref p), some (.int (1 + r1)), some (.int fg), some (.int (48 * (1 + r1) - (fg : Int) + r2 - 2)), some (.ref f), some (.int (rest / 2)), some (.int (0 + (i : Int)))] : L2.St) = [some (.ref p), some (.int (1 + r1)), some (.int fg), some (.int (48 * (1 + r1) - (fg : Int) + r2 - 2)), some (.ref f), some (.int rest'), v6] ∧ Src F (upd H7 f (.lst (bs.map V.int ++ [.int (rest % 2)]))) p ∧ Stp (S1 p) F H F (upd H7 f (.lst (bs.map V.int ++ [.int (rest % 2)]))) ∧ upd H7 f (.lst (bs.map V.int ++ [.int (rest % 2)])) f = some (.lst (bs'.map V.int)) ∧ bs'.length = i + 1 ∧ isBits bs' := fun rest H7 s7 t7 h7 =>
        ⟨_, _, bs ++ [rest % 2], rfl, s7.upd nfp fF, t7.wrNew f0 fF, by rw [upd_same]; simp, by simp [bl], fun x hx => by
          rcases List.mem_append.mp hx with hx | hx
          · exact bb x hx
          · rw [List.mem_singleton.mp hx]; unfold isBit; omega⟩
      walk_at "r"
      refine ifd (fun h => ?_) (fun h => ?_)
      · walk_at "r"
        refine ⟨rfl, F, p, _, rfl, s6, by decide, by decide, fun r5 H7 s7 t7 r50 r51 => ?_⟩
        have h7 := t7.keep _ _ (fun z => nfp z) h6
        walk_at "r"
        refine ⟨.inl ⟨rfl, _, SqL.of h7⟩, ?_⟩
        walk_at "r"
        refine ⟨f, _, _, rfl, rfl, h7, Nat.lt_of_lt_of_le (m := 10000) (by rw [List.length_map]; omega) (by decide), ?_⟩
        walk_at "r"
        exact fin r5 H7 s7 (t6.trans t7) h7
      · walk_at "r"
        refine ⟨.inl ⟨rfl, _, SqL.of h6⟩, ?_⟩
        walk_at "r"
        refine ⟨f, _, _, rfl, rfl, h6, Nat.lt_of_lt_of_le (m := 10000) (by rw [List.length_map]; omega) (by decide), ?_⟩
        walk_at "r"
        exact fin rest H6 s6 t6 h6
    · rintro σ H6 ⟨v6, rest, bs, rfl, s6, t6, h6, bl, bb⟩
      walk_at "r"
      have t7 := t6.freeze f0 h6 fF
      exact q f bs _ H6 (s6.frz nfp.symm t7.fh) t7 upd_same bb (by omega)
abbrev s_law_damaged : Stmt := topS 48
theorem sc_law_damaged : FnScope ["_law_source", "_law_cell", "_law_begin", "_law_found", "_law_places", "_law_turn", "_law_place", "_law_some", "_law_at"] ["_law_source", "_law_cell"] (defScope s_law_damaged) := ⟨rfl, rfl, rfl, by decide +kernel, rfl, by decide +kernel, by decide +kernel⟩
def Ok_law_damaged (P : Program) (w : World) (K : PySem.W.Frag) (mg : Str → Option Value) (base : Heap) : Prop := ∃ fA fd, Fn P w K mg base (L2.CX P w) 2 "_law_damaged" s_law_damaged fA fd ["_law_source", "_law_cell"] (sp_law_damaged K mg)
theorem okx_law_damaged (Z : Zs K mg) {fA : Addr} {fd : FuncData} (F : Fun K "_law_damaged" "_law_damaged" s_law_damaged fA fd) (m : mg "_law_damaged" = some (.ref fA)) (C_law_take : Ok_law_take P w K mg base) : Fn P w K mg base (L2.CX P w) 2 "_law_damaged" s_law_damaged fA fd ["_law_source", "_law_cell"] (sp_law_damaged K mg) := by
  obtain ⟨_, _, C_law_take⟩ := C_law_take
  refine ⟨F.okX sc_law_damaged (fun vs H Q E h => h.1) (fun cdv A outer s H vs Q E hr h => ?_), m, F.kp, F.binds fun _ _ _ _ _ _ us hl => match us, hl with | [_, _], _ => rfl, F⟩
  have hu64 := hr.units
  obtain ⟨hlen, h⟩ := h
  refine ⟨_, (pss_cons (ps_asg (pe_tup (pa_cons (pe_call C_law_take.G (hr.mono (by decide)) rfl C_law_take.m C_law_take.kp C_law_take.b .nil passL (pa_cons (pv 0) (pa_cons pe_int pa_nil))) (pa_cons (pe_callTy call_list_of (by rfl) Z.z_list (by decide +kernel) (pa_cons (pv 1) pa_nil)) pa_nil))) (pg_tup rfl (pgs_cons (pg_name (i := 2) sc_law_damaged.nd rfl (Or.inr rfl)) (pgs_cons (pg_name (i := 3) sc_law_damaged.nd rfl (Or.inl rfl)) pgs_nil))))
    (pss_cons (ps_set (i := 4) sc_law_damaged.nd rfl (Or.inl rfl) (pe_lst (pa_cons (pv 2) pa_nil)))
    (pss_cons (ps_if (pt_cmpR op_eq (pe_call C_law_take.G (hr.mono (by decide)) rfl C_law_take.m C_law_take.kp C_law_take.b .nil passL (pa_cons (pv 0) (pa_cons pe_int pa_nil))) pe_int (nomark _))
      (pss_one (ps_for (passes_of rfl) rfl (pi_range1 rfl Z.z_range (pa_cons (pe_call C_law_take.G (hr.mono (by decide)) rfl C_law_take.m C_law_take.kp C_law_take.b .nil passL (pa_cons (pv 0) (pa_cons pe_int pa_nil))) pa_nil)) (pg_name (i := 5) sc_law_damaged.nd rfl (Or.inl rfl))
      (pss_cons (ps_set (i := 6) sc_law_damaged.nd rfl (Or.inl rfl) (pe_call C_law_take.G (hr.mono (by decide)) rfl C_law_take.m C_law_take.kp C_law_take.b .nil passL (pa_cons (pv 0) (pa_cons pe_int pa_nil))))
    (pss_one (ps_set (i := 4) sc_law_damaged.nd rfl (Or.inl rfl) (pe_op op_cat (pv 4) (pe_op op_rep (pe_lst (pa_cons (pv 6) pa_nil)) (pe_callTy c_int1 (by rfl) Z.z_int (by decide +kernel) (pa_cons (pe_cmpR (o_notIn K rfl) (pv 6) (pv 4) rfl) pa_nil)))))))))
      (pss_cons (ps_set (i := 7) sc_law_damaged.nd rfl (Or.inr rfl) (pe_call C_law_take.G (hr.mono (by decide)) rfl C_law_take.m C_law_take.kp C_law_take.b .nil passL (pa_cons (pv 0) (pa_cons pe_int pa_nil))))
    (pss_one (ps_set (i := 4) sc_law_damaged.nd rfl (Or.inl rfl) (pe_op op_cat (pv 4) (pe_lc (own := [("_law_at", 8)]) (g := gName 8) (tt := _) (by rfl) sc_law_damaged.nd (pi_range1 rfl Z.z_range (pa_cons pe_int pa_nil)) (blkOk_by (own := [("_law_at", 8)]) (N := ["_law_source", "_law_cell", "_law_begin", "_law_found", "_law_places", "_law_turn", "_law_place", "_law_some", "_law_at"]) (sc := defScope s_law_damaged) (by decide +kernel)) (fun _ _ _ _ _ => (pg_name (i := 8) sc_law_damaged.nd rfl (Or.inl rfl))) (fun _ _ _ _ _ => pts_one (PW.pt (pw_and (pt_cmpR op_eq (pe_op o_and1 (pe_op op_shr (pv 7) (pv 8)) pe_int) pe_int (nomark _)) (pw_and1 (pt_cmpR op_lt (pe_op op_add (pe_op op_add (pv 2) (pv 8)) pe_int) pe_int (nomark _)))))) (fun _ _ _ _ _ => (pe_op op_add (pe_op op_add (pv 2) (pv 8)) pe_int))))))))
    (pss_cons (ps_for (passes_of rfl) rfl (pi_list (pv 4)) (pg_name (i := 6) sc_law_damaged.nd rfl (Or.inl rfl))
      (pss_one (ps_asg (pe_op op_sub pe_int (pe_ix (i_list K rfl) (pv 3) (pv 6) (fun _ _ => rfl))) (pg_sub (pv 3) (pv 6) set_list))))
    (pss_one (ps_ret (pv 3))))))), ?_⟩
  obtain ⟨F, p, a, c, rfl, hs, ha, hc56, q⟩ := h
  walk_at "r"
  refine ⟨rfl, F, p, _, rfl, hs, by decide, by decide, fun r1 H1 s1 t1 r10 r11 => ?_⟩
  obtain ⟨bg, rfl⟩ : ∃ bg : Nat, r1 = (bg : Int) := ⟨r1.toNat, by omega⟩
  walk_at "r"
  refine ⟨a, _, rfl, .inl (SqL.of (s1.1 _ _ ha)), fun f hf => ?_⟩
  generalize eX : upd H1 f _ = H2
  obtain ⟨s2, t2, e2, hf2, nfp, fF, f0⟩ := scr s1 t1 hf eX
  clear eX
  refine ⟨sz (by simp), fun tp htp => ?_⟩
  have nft := ne_of_none hf2 htp
  generalize eX : upd H2 tp _ = H3
  obtain ⟨s3, t3, e3, htp3, -, -, -⟩ := scr s2 t2 htp eX
  clear eX
  have hf3 := e3 _ _ hf2
  walk_at "r"
  refine ⟨sz (by simp), fun pl hpl => ?_⟩
  have nfpl := ne_of_none hf3 hpl
  generalize eX : upd H3 pl _ = H4
  obtain ⟨s4, t4, e4, hpl4, npp, plF, -⟩ := scr s3 t3 hpl eX
  clear eX
  have hf4 := e4 _ _ hf3
  clear s1 t1 s2 t2 e2 s3 t3 e3 e4 hf3 hf2
  -- the last loop
  have fin : ∀ (σ : L2.St) (v5 v6 v7 v8 : Option V) (pl : Addr) (L : List Nat) (H5 : Hp), Src F H5 p → Stp (S1 p) F H F H5 → H5 f = some (.lst (c.map V.int)) → H5 pl = some (.lst (litP L)) → f ≠ pl → L.Nodup → SpotsOk L →
      σ = [some (.ref p), some (.ref a), some (.int bg), some (.ref f), some (.ref pl), v5, v6, v7, v8] →
      tSeq (tFor (iList K (tVar 4)) (gName 6) (tAsg (tOp (rI0 fun i j => .int (i - j)) (tC (.int 1)) (tOp (rIxL K) (tVar 3) (tVar 6))) (gSub (tVar 3) (tVar 6) rSetL))) (tRet (tVar 3)) ⟨fun σ H' => Q V.non H', Q, fun _ _ => False, fun _ _ => False⟩ σ H5 := by
    rintro σ v5 v6 v7 v8 pl L H5 s5 t5 hf5 hl5 nfl nd ok rfl
    walk_at "r"
    refine ⟨pl, rfl, ⟨_, SqL.of hl5⟩, ?_⟩
    refine forL (xs := litP L) (fun i σ H' => ∃ v6, σ = [some (.ref p), some (.ref a), some (.int bg), some (.ref f), some (.ref pl), v5, v6, v7, v8] ∧ Src F H' p ∧ Stp (S1 p) F H F H' ∧ H' f = some (.lst ((flipL (ind (L.take i)) 0 c).map V.int)) ∧ H' pl = some (.lst (litP L)))
      ⟨_, rfl, s5, t5, by rw [List.take_zero, flip_nil]; exact hf5, hl5⟩ (fun i σ H' _ ⟨_, _, _, _, _, h⟩ => SqL.of h) ?_ ?_
    · rintro i x σ H6 hx ⟨w6, rfl, s6, t6, hf6, hl6⟩
      obtain ⟨y, hy, rfl⟩ : ∃ y : Nat, L[i]? = some y ∧ x = .int (y : Int) := by
        unfold litP at hx
        rw [List.getElem?_map, List.getElem?_map] at hx
        cases e : L[i]? with
        | none => rw [e] at hx; cases hx
        | some y => rw [e] at hx; exact ⟨y, rfl, (Option.some.inj hx).symm⟩
      have hil := (List.getElem?_eq_some_iff.mp hy).1
      have hye : L[i] = y := (List.getElem?_eq_some_iff.mp hy).2
      have hy56 : y < c.length := by
        have := ok.2.1 y (List.mem_of_getElem? hy)
        omega
      have ny : y ∉ L.take i := fun z => by
        rw [← List.take_append_drop i L, List.nodup_append] at nd
        refine nd.2.2 y z y ?_ rfl
        rw [List.drop_eq_getElem_cons hil, hye]; simp
      have hfy : y < (flipL (ind (L.take i)) 0 c).length := by rw [flipL_len]; exact hy56
      have hgy := flip_get (L := L.take i) hy56
      rw [if_neg ny, List.getElem?_eq_getElem hfy] at hgy
      walk_at "r"
      refine s_ixL (SqL.of hf6) (at_of (j := y) (by omega) (get_int hfy)) ?_
      walk_at "r"
      refine s_setL hf6 (ixN_of (by rw [List.length_map]; exact hfy)) ?_
      obtain ⟨s7, t7⟩ := wrZ (o := .lst (((flipL (ind (L.take i)) 0 c).map V.int).set y (.int (1 - (flipL (ind (L.take i)) 0 c)[y])))) s6 t6 nfp fF f0
      refine ⟨_, rfl, s7, t7, ?_, by rw [upd_ne nfl.symm]; exact hl6⟩
      rw [upd_same, Option.some.inj hgy, ← List.map_set, flip_set hy56 ny, List.take_succ_eq_append_getElem hil, hye]
    · rintro σ H6 ⟨w6, rfl, s6, t6, hf6, hl6⟩
      rw [show (litP L).length = L.length by simp [litP], List.take_length] at hf6
      walk_at "r"
      obtain ⟨F7, s7, t7, e7, hf7, -⟩ := keepZ s6 t6 nfp fF f0 hf6
      exact q f L F7 H6 s7 t7 hf7 ok
  walk_at "r"
  refine ⟨rfl, F, p, _, rfl, s4, by decide, by decide, fun r2 H5 s5 t5 r20 r21 => ?_⟩
  have hf5 := t5.keep _ _ (fun z => nfp z) hf4
  have hpl5 := t5.keep _ _ (fun z => npp z) hpl4
  replace t5 := t4.trans t5
  walk_at "r"
  refine ifd (fun c1 => ?_) (fun c1 => ?_)
  · walk_at "r"
    refine ⟨rfl, F, p, _, rfl, s5, by decide, by decide, fun r3 H6 s6 t6 r30 r31 => ?_⟩
    walk_at "r"
    refine ⟨_, rfl, by omega, by omega, ?_⟩
    refine forR (fun i σ H' => ∃ v5 v6 v7 v8 pl L, σ = [some (.ref p), some (.ref a), some (.int bg), some (.ref f), some (.ref pl), v5, v6, v7, v8] ∧ Src F H' p ∧ Stp (S1 p) F H F H' ∧ H' f = some (.lst (c.map V.int)) ∧ H' pl = some (.lst (litP L)) ∧ f ≠ pl ∧ pl ≠ p ∧ L.Nodup ∧ L ≠ [] ∧ (∀ x ∈ L, x < 56) ∧ L.length ≤ i + 1)
      ⟨_, _, _, _, pl, [bg], rfl, s6, t5.trans t6, t6.keep _ _ (fun z => nfp z) hf5, t6.keep _ _ (fun z => npp z) hpl5, nfpl, npp, by simp, by simp, by simp; omega, by simp⟩ ?_ ?_
    · rintro i σ H7 hi ⟨v5, v6, v7, v8, pl, L, rfl, s7, t7, hf7, hl7, nfl, nlp, nd, ne, lb, ll⟩
      walk_at "r"
      refine ⟨rfl, F, p, _, rfl, s7, by decide, by decide, fun r4 H8 s8 t8 r40 r41 => ?_⟩
      obtain ⟨y, rfl⟩ : ∃ y : Nat, r4 = (y : Int) := ⟨r4.toNat, by omega⟩
      have hf8 := t8.keep _ _ (fun z => nfp z) hf7
      have hl8 := t8.keep _ _ (fun z => nlp z) hl7
      replace t8 := t7.trans t8
      walk_at "r"
      refine ⟨sz (by simp), fun w hw => ?_⟩
      generalize eX : upd H8 w _ = H9
      obtain ⟨s9, t9, e9, hw9, -, -, -⟩ := scr s8 t8 hw eX
      clear eX
      have hf9 := e9 _ _ hf8
      have hl9 := e9 _ _ hl8
      walk_at "r"
      refine inV_notin (SqL.of hl9) ?_
      walk_at "r"
      have fin2 : ∀ (k : Int), (k = 0 ∧ y ∈ L) ∨ (k = 1 ∧ y ∉ L) → ∀ (R : V → Hp → Prop), (∀ pl2 H11, Src F H11 p → Stp (S1 p) F H F H11 → H11 f = some (.lst (c.map V.int)) → H11 pl2 = some (.lst (litP (if y ∈ L then L else L ++ [y]))) → f ≠ pl2 → pl2 ≠ p → R (.ref pl2) H11) → rRep (.ref w) (.int k) H9 fun y1 H10 => rCat (.ref pl) y1 H10 R := by
        intro k hk R hR
        refine s_rep hw9 (by omega) (by omega) fun w2 hw2 => ?_
        generalize eX : upd H9 w2 _ = H10
        obtain ⟨s10, t10, e10, hw10, -, -, -⟩ := scr s9 t9 hw2 eX
        clear eX
        have hf10 := e10 _ _ hf9
        have hl10 := e10 _ _ hl9
        refine ⟨_, _, _, _, rfl, rfl, hl10, hw10, sz (by simp [litP]; omega), fun w3 hw3 => ?_⟩
        have nf3 := ne_of_none hf10 hw3
        generalize eX : upd H10 w3 _ = H11
        obtain ⟨s11, t11, e11, hw11, n3, -, -⟩ := scr s10 t10 hw3 eX
        clear eX
        refine hR w3 H11 s11 t11 (e11 _ _ hf10) ?_ nf3 n3
        rw [hw11]
        rcases hk with ⟨rfl, h⟩ | ⟨rfl, h⟩
        · rw [if_pos h]; simp
        · rw [if_neg h]; simp [litP]
      refine fin2 _ ?_ _ ?_
      · by_cases z : y ∈ L
        · refine .inl ⟨?_, z⟩
          rw [decide_eq_true (litP_mem.mpr z)]; rfl
        · refine .inr ⟨?_, z⟩
          rw [decide_eq_false (fun h => z (litP_mem.mp h))]; rfl
      · intro pl2 H11 s11 t11 hf11 hl11 nf2 np2
        walk_at "r"
        refine ⟨_, _, _, _, pl2, _, rfl, s11, t11, hf11, hl11, nf2, np2, ?_, ?_, ?_, ?_⟩
        · by_cases z : y ∈ L
          · rw [if_pos z]; exact nd
          · rw [if_neg z, List.nodup_append]
            exact ⟨nd, by simp, fun a ha b hb e => z (by rw [List.mem_singleton] at hb; rw [← hb, ← e]; exact ha)⟩
        · split
          · exact ne
          · simp
        · intro x hx
          split at hx
          · exact lb x hx
          · rcases List.mem_append.mp hx with hx | hx
            · exact lb x hx
            · rw [List.mem_singleton] at hx; omega
        · split
          · omega
          · rw [List.length_append, List.length_singleton]; omega
    · rintro σ H7 ⟨v5, v6, v7, v8, pl, L, rfl, s7, t7, hf7, hl7, nfl, nlp, nd, ne, lb, ll⟩
      exact fin _ v5 v6 v7 v8 pl L H7 s7 t7 hf7 hl7 nfl nd ⟨ne, lb, .inl (by omega)⟩ rfl
  · walk_at "r"
    refine ⟨rfl, F, p, _, rfl, s5, by decide, by decide, fun r3 H6 s6 t6 r30 r31 => ?_⟩
    have hf6 := t6.keep _ _ (fun z => nfp z) hf5
    have hpl6 := t6.keep _ _ (fun z => npp z) hpl5
    replace t6 := t5.trans t6
    walk_at "r"
    refine ⟨_, rfl, by decide, by decide, ?_⟩
    refine lcW walk_range S0 s6.1 (fun _ z => z.elim) (fun _ _ _ => trivial) (fun i acc F H => ∃ L : List Nat, acc = litP L ∧ L.Nodup ∧ ∀ x ∈ L, bg + 1 ≤ x ∧ x < bg + 1 + i ∧ x < 56) (fun _ _ _ _ _ _ _ _ _ r => r) ⟨[], rfl, by simp, by simp⟩ ?_ ?_
    · rintro i x acc d F1 H7 H8 hi ⟨rfl, rfl⟩ hd nS st f0' e hl ⟨L, rl, nd, lb⟩
      have hi7 : i < 7 := hi
      walk_at "r"
      refine ⟨rfl, ?_⟩
      walk_at "r"
      refine ifd (fun z1 => ?_) (fun z1 => ?_)
      · walk_at "r"
        refine ifd (fun z2 => ?_) (fun z2 => ?_)
        · walk_at "r"
          refine lc_end hd nS st f0' e hl (by omega) (.rfl' st.fh) ⟨L ++ [bg + i + 1], ?_, ?_, ?_⟩
          · rw [rl]; simp [litP]
          · rw [List.nodup_append]
            exact ⟨nd, by simp, fun a ha b hb e => by
              rw [List.mem_singleton] at hb
              have := lb a ha
              omega⟩
          · intro x hx
            rcases List.mem_append.mp hx with hx | hx
            · have := lb x hx; omega
            · rw [List.mem_singleton] at hx; omega
        · exact lc_skip hd nS st f0' e hl (.rfl' st.fh) ⟨L, rl, nd, fun x hx => by have := lb x hx; omega⟩
      · exact lc_skip hd nS st f0' e hl (.rfl' st.fh) ⟨L, rl, nd, fun x hx => by have := lb x hx; omega⟩
    · intro d acc F1 F2 H7 st hd f0' ef st1 hl ⟨L, rl, nd, lb⟩
      have hd7 : H7 d = some (.lst acc) := by rw [ef] at st1; exact st1.fh _ _ upd_same
      obtain ⟨s7, t7⟩ := sameZ s6 t6 st.same
      have hf7 := st.same _ _ hf6
      have hpl7 := st.same _ _ hpl6
      have hll : L.length ≤ 7 := by
        have : acc.length = L.length := by rw [rl]; simp [litP]
        have h7 : ((0 : Int) + 7).toNat = 7 := rfl
        have h8 : acc.length ≤ 7 := hl
        omega
      refine ⟨_, _, _, _, rfl, rfl, hpl7, hd7, sz (by rw [rl]; simp [litP]; omega), fun w3 hw3 => ?_⟩
      have nf3 := ne_of_none hf7 hw3
      generalize eX : upd H7 w3 _ = H11
      obtain ⟨s11, t11, e11, hw11, n3, -, -⟩ := scr s7 t7 hw3 eX
      clear eX
      refine fin _ _ _ _ _ w3 (bg :: L) H11 s11 t11 (e11 _ _ hf7) ?_ nf3 ?_ ?_ rfl
      · rw [hw11, rl]; simp [litP]
      · rw [List.nodup_cons]
        exact ⟨fun z => by have := lb bg z; omega, nd⟩
      · refine ⟨by simp, fun x hx => ?_, .inr ⟨min bg 48, by omega, fun x hx => ?_⟩⟩
        · rcases List.mem_cons.mp hx with rfl | hx
          · omega
          · exact (lb x hx).2.2
        · rcases List.mem_cons.mp hx with rfl | hx
          · omega
          · have := lb x hx
            have h7 : ((0 : Int) + 7).toNat = 7 := rfl
            omega
abbrev s_law_opened_right : Stmt := topS 49
theorem sc_law_opened_right : FnScope ["_law_source", "_law_bits_here", "_law_group", "_law_cells_here", "_law_changed", "_law_marks", "_law_begin", "_law_some", "_law_spoilt", "_law_at", "_law_cell", "_law_told", "_law_mark"] ["_law_source", "_law_bits_here", "_law_group", "_law_cells_here"] (defScope s_law_opened_right) := ⟨rfl, rfl, rfl, by decide +kernel, rfl, by decide +kernel, by decide +kernel⟩
def Ok_law_opened_right (P : Program) (w : World) (K : PySem.W.Frag) (mg : Str → Option Value) (base : Heap) : Prop := ∃ fA fd, Fn P w K mg base (L2.CX P w) 6 "_law_opened_right" s_law_opened_right fA fd ["_law_source", "_law_bits_here", "_law_group", "_law_cells_here"] (sp_law_opened_right K mg)
theorem okx_law_opened_right (Z : Zs K mg) {fA : Addr} {fd : FuncData} (F : Fun K "_law_opened_right" "_law_opened_right" s_law_opened_right fA fd) (m : mg "_law_opened_right" = some (.ref fA)) (C_open_cells : Ok_open_cells P w K mg base) (C_law_joined : Ok_law_joined P w K mg base) (C_good : Ok_good P w K mg base) (C_law_damaged : Ok_law_damaged P w K mg base) (C_law_take : Ok_law_take P w K mg base) : Fn P w K mg base (L2.CX P w) 6 "_law_opened_right" s_law_opened_right fA fd ["_law_source", "_law_bits_here", "_law_group", "_law_cells_here"] (sp_law_opened_right K mg) := by
  obtain ⟨_, _, C_open_cells⟩ := C_open_cells
  obtain ⟨_, _, C_law_joined⟩ := C_law_joined
  obtain ⟨_, _, C_good⟩ := C_good
  obtain ⟨_, _, C_law_damaged⟩ := C_law_damaged
  obtain ⟨_, _, C_law_take⟩ := C_law_take
  refine ⟨F.okX sc_law_opened_right (fun vs H Q E h => h.1) (fun cdv A outer s H vs Q E hr h => ?_), m, F.kp, F.binds fun _ _ _ _ _ _ us hl => match us, hl with | [_, _, _, _], _ => rfl, F⟩
  have hu64 := hr.units
  obtain ⟨hlen, h⟩ := h
  refine ⟨_, (pss_cons (ps_par (i := 4) (j := 5) (by rfl) sc_law_opened_right.nd rfl rfl (by decide) rfl rfl (pa_cons (pe_lst pa_nil) (pa_cons (pe_lst pa_nil) pa_nil)) (by rfl))
    (pss_cons (ps_for (passes_of rfl) rfl (pi_range3 rfl Z.z_range (pa_cons pe_int (pa_cons (pe_callB (c_len K rfl) (by rfl) Z.z_len (by decide +kernel) (pa_cons (pv 3) pa_nil)) (pa_cons (pe_op op_add (pv 2) pe_int) pa_nil)))) (pg_name (i := 6) sc_law_opened_right.nd rfl (Or.inl rfl))
      (pss_cons (ps_set (i := 7) sc_law_opened_right.nd rfl (Or.inl rfl) (pe_slice (l_list K rfl) (pv 3) (po_some (pv 6)) (po_some (pe_op op_add (pe_op op_add (pv 6) (pv 2)) pe_int))))
    (pss_cons (ps_set (i := 8) sc_law_opened_right.nd rfl (Or.inl rfl) (pe_call C_law_take.G (hr.mono (by decide)) rfl C_law_take.m C_law_take.kp C_law_take.b .nil passL (pa_cons (pv 0) (pa_cons (pe_op op_add (pe_callB (c_len K rfl) (by rfl) Z.z_len (by decide +kernel) (pa_cons (pv 7) pa_nil)) pe_int) pa_nil))))
    (pss_one (ps_for (passes_of rfl) rfl (pi_enum (by rfl) Z.z_enumerate (pa_cons (pv 7) pa_nil)) (pg_tup rfl (pgs_cons (pg_name (i := 9) sc_law_opened_right.nd rfl (Or.inl rfl)) (pgs_cons (pg_name (i := 10) sc_law_opened_right.nd rfl (Or.inl rfl)) pgs_nil)))
      (pss_cons (ps_expr (pe_bm PySem.F.plainAttrs_list PySem.F.slot_list_append PySem.F.type_list_append mt_append (pv 4) (pa_cons (pe_ifExp (pt_cmpR op_eq (pv 9) (pv 8) (nomark _)) (pe_call C_law_damaged.G (hr.mono (by decide)) rfl C_law_damaged.m C_law_damaged.kp C_law_damaged.b .nil passL (pa_cons (pv 0) (pa_cons (pv 10) pa_nil))) (pv 10)) pa_nil)))
    (pss_one (ps_expr (pe_bm PySem.F.plainAttrs_list PySem.F.slot_list_append PySem.F.type_list_append mt_append (pv 5) (pa_cons (pe_cmpR op_ne (pv 9) (pv 8) (nomark _)) pa_nil))))))))))
    (pss_cons (ps_set (i := 11) sc_law_opened_right.nd rfl (Or.inl rfl) (pe_call C_good.G (hr.mono (by decide)) rfl C_good.m C_good.kp C_good.b .nil passL (pa_cons (pe_call C_law_joined.G (hr.mono (by decide)) rfl C_law_joined.m C_law_joined.kp C_law_joined.b .nil passL (pa_cons (pv 4) pa_nil)) (pa_cons (pv 2) pa_nil))))
    (pss_cons (ps_if (PW.pt (pw_or (pt_cmpR (o_neD K rfl hu64) (pv 11) (pv 5) (nomark _)) (pw_or1 (pt_cmpR (o_neD K rfl hu64) (pe_lc (own := [("_law_mark", 12)]) (g := gName 12) (tt := _) (by rfl) sc_law_opened_right.nd (pi_list (pv 11)) (blkOk_by (own := [("_law_mark", 12)]) (N := ["_law_source", "_law_bits_here", "_law_group", "_law_cells_here", "_law_changed", "_law_marks", "_law_begin", "_law_some", "_law_spoilt", "_law_at", "_law_cell", "_law_told", "_law_mark"]) (sc := defScope s_law_opened_right) (by decide +kernel)) (fun _ _ _ _ _ => (pg_name (i := 12) sc_law_opened_right.nd rfl (Or.inl rfl))) (fun _ _ _ _ _ => pts_one (PW.pt (pw_and (pt_cmpR op_isnot_bl (pv 12) pe_bl (nomark _)) (pw_and1 (pt_cmpR op_isnot_bl (pv 12) pe_bl (nomark _)))))) (fun _ _ _ _ _ => (pv 12))) (pe_lst pa_nil) (nomark _)))))
      (pss_one (ps_ret pe_bl))
      pss_nil)
    (pss_one (ps_ret (pe_cmpR (o_eqD K rfl hu64) (pe_call C_open_cells.G (hr.mono (by decide)) rfl C_open_cells.m C_open_cells.kp C_open_cells.b .nil passL (pa_cons (pe_call C_law_joined.G (hr.mono (by decide)) rfl C_law_joined.m C_law_joined.kp C_law_joined.b .nil passL (pa_cons (pv 4) pa_nil)) (pa_cons (pv 2) pa_nil))) (pv 1) (nomark _)))))))), ?_⟩
  obtain ⟨F, p, b, a, bs, g, us, rfl, hs, hb, bB, bl, g1, g8, ha, hR, q⟩ := h
  obtain ⟨lds, hcm, hc0, hc20, hcmod⟩ := cells_facts (g := g) (by omega) bB bl
  obtain ⟨cs, hcs⟩ : ∃ cs, cellsC g (loadsC bs) = cs := ⟨_, rfl⟩
  rw [hcs] at hR hcm hc0 hc20 hcmod
  have hul := RL.len hR
  walk_at "r"
  refine ⟨sz (by simp), fun f1 hf1 => ?_⟩
  generalize eX : upd H f1 _ = H1
  obtain ⟨s1, t1, e1, h1, n1, fF1, f01⟩ := scr hs (.rfl' hs.1) hf1 eX
  clear eX
  walk_at "r"
  refine ⟨sz (by simp), fun f2 hf2 => ?_⟩
  have n12 := ne_of_none h1 hf2
  generalize eX : upd H1 f2 _ = H2
  obtain ⟨s2, t2, e2, h2, n2, fF2, f02⟩ := scr s1 t1 hf2 eX
  clear eX
  have h12 := e2 _ _ h1
  clear s1 t1 e1
  walk_at "r"
  refine s_len (SqL.of (s2.1 _ _ ha)) ?_
  walk_at "r"
  have hn : (chunk (g + 1) cs).length = (cs.length + (g + 1) - 1) / (g + 1) := chunk_len (by omega) cs
  have en : (((us.length : Nat) : Int) + (((g : Nat) : Int) + 1) - 1) / (((g : Nat) : Int) + 1) = (((chunk (g + 1) cs).length : Nat) : Int) := by
    rw [hn, Int.natCast_ediv, hul]
    congr 1
    omega
  refine ⟨_, _, _, (chunk (g + 1) cs).length, rfl, ?_, ?_⟩
  · have := rgc_up (L := ((us.length : Nat) : Int)) (k := ((g : Nat) : Int) + 1) (by omega) (by omega) (by omega) (by omega)
    rw [en, Int.toNat_natCast] at this
    exact this
  refine forW walk_rangeC (fun i σ H' => ∃ v6 v7 v8 v9 v10 Fi acc ch sp, σ = [some (.ref p), some (.ref b), some (.int g), some (.ref a), some (.ref f1), some (.ref f2), v6, v7, v8, v9, v10, none, none] ∧ Src Fi H' p ∧ Stp (S1 p) F H Fi H' ∧ Fi f1 = none ∧ Fi f2 = none ∧ H' f1 = some (.lst acc) ∧ RL Fi acc ch ∧ Chd (mkS g sp) cs ch ∧ ch.length = min (i * (g + 1)) cs.length ∧ H' f2 = some (.lst (((List.range ch.length).map fun j => !mkS g sp j).map V.bl)))
    ⟨_, _, _, _, _, F, [], [], fun _ => 0, rfl, s2, t2, fF1, fF2, h12, .nil, .nil, by simp, h2⟩ (fun _ _ _ _ _ => trivial) ?_ ?_
  · rintro i x σ H0' H3 hi ⟨v6, v7, v8, v9, v10, Fi, acc, ch, sp, rfl, s3, t3, fi1, fi2, h31, rl, chd, hcl, h32⟩ ⟨rfl, rfl⟩
    rw [hn] at hi
    have hik := chunk_under (by omega) hi
    have ei : (0 : Int) + (i : Int) * (((g : Nat) : Int) + 1) = ((i * (g + 1) : Nat) : Int) := by simp
    have ej : ((i * (g + 1) : Nat) : Int) + (g : Int) + 1 = ((i * (g + 1) + (g + 1) : Nat) : Int) := by omega
    dsimp only; rw [ei]
    walk_at "r"
    rw [ej]
    refine s_slL (SqL.of (s3.1 _ _ (t3.ff _ _ ha))) fun w hw => ?_
    rw [cutV_nat, Nat.add_sub_cancel_left]
    obtain ⟨sV, hsV⟩ : ∃ sV, (us.drop (i * (g + 1))).take (g + 1) = sV := ⟨_, rfl⟩
    have rls : RL Fi sV ((cs.drop (i * (g + 1))).take (g + 1)) := by
      rw [← hsV]; exact LV.mono t3.ff (RL.take _ (RL.drop _ hR))
    have slen : sV.length = min (g + 1) (cs.length - i * (g + 1)) := by rw [← hsV, List.length_take, List.length_drop, hul]
    rw [hsV]
    have nw1 := ne_of_none h31 hw
    have nw2 := ne_of_none h32 hw
    generalize eX : upd H3 w _ = H4
    obtain ⟨F4, s4, t4, ff4, e4, hw4, fo4⟩ := frz s3 t3 hw eX
    clear eX
    have f41 : F4 f1 = none := (fo4 _ _ h31).trans fi1
    have f42 : F4 f2 = none := (fo4 _ _ h32).trans fi2
    have h41 := e4 _ _ h31
    have h42 := e4 _ _ h32
    have rl4 := LV.mono ff4 rl
    have rls4 := LV.mono ff4 rls
    clear fo4 e4 s3 t3 rl rls h31 h32
    walk_at "r"
    refine s_len (SqL.of (s4.1 _ _ hw4)) ?_
    walk_at "r"
    refine ⟨rfl, F4, p, _, rfl, s4, by omega, by omega, fun r H5 s5 t5 r0 r1 => ?_⟩
    obtain ⟨spt, rfl⟩ : ∃ spt : Nat, r = (spt : Int) := ⟨r.toNat, by omega⟩
    have h51 := t5.keep _ _ (fun z => n1 z) h41
    have h52 := t5.keep _ _ (fun z => n2 z) h42
    replace t5 := t4.trans t5
    walk_at "r"
    refine s_iE ?_
    walk_at "r"
    refine ⟨w, sV, rfl, SqL.of (s5.1 _ _ hw4), ?_⟩
    have hcl' : ch.length = i * (g + 1) := by omega
    obtain ⟨sp', hsp⟩ : ∃ sp' : Nat → Nat, sp' = fun x => if x = i then spt else sp x := ⟨_, rfl⟩
    have hspi : sp' i = spt := by rw [hsp]; simp
    have hsame : ∀ j < ch.length, mkS g sp j = mkS g sp' j := fun j hj => by
      unfold mkS
      have : j / (g + 1) < i := Nat.div_lt_of_lt_mul (by rw [Nat.mul_comm, ← hcl']; exact hj)
      have e : sp' (j / (g + 1)) = sp (j / (g + 1)) := by
        rw [hsp]
        exact if_neg (by omega)
      rw [e]
    refine forW (walk_enum (xs := sV)) (fun t σ H' => ∃ v9 v10 Fj acc ch, σ = [some (.ref p), some (.ref b), some (.int g), some (.ref a), some (.ref f1), some (.ref f2), some (.int ((i * (g + 1) : Nat) : Int)), some (.ref w), some (.int spt), v9, v10, none, none] ∧ Src Fj H' p ∧ Stp (S1 p) F H Fj H' ∧ Same F4 Fj ∧ Fj f1 = none ∧ Fj f2 = none ∧ H' f1 = some (.lst acc) ∧ RL Fj acc ch ∧ Chd (mkS g sp') cs ch ∧ ch.length = i * (g + 1) + t ∧ H' f2 = some (.lst (((List.range ch.length).map fun j => !mkS g sp' j).map V.bl)))
      ⟨_, _, F4, acc, ch, rfl, s5, t5, Same.refl _, f41, f42, h51, rl4, chd.congr hsame, by omega, ?_⟩ (fun t σ H' _ ⟨_, _, _, _, _, _, s, _, e, _⟩ => SqL.of (s.1 _ _ (e _ _ hw4))) ?_ ?_
    · rw [h52]
      congr 3
      refine List.map_congr_left fun j hj => ?_
      rw [hsame j (List.mem_range.mp hj)]
    · rintro t x σ H6 H7 ht ⟨v9, v10, Fj, acc, ch, rfl, s6, t6, e46, f61, f62, h61, rl, chd, hcl, h62⟩ ⟨T, x1, y1, rfl, hT, eX, hx1, hy1⟩
      obtain rfl := Option.some.inj hx1
      have htl : t < sV.length := ht
      have tg : t < g + 1 := by omega
      obtain ⟨cA, c, rfl, hc, hcA⟩ := RL.get rls4 t hy1
      rw [List.getElem?_take_of_lt tg, List.getElem?_drop, ← hcl] at hc
      obtain ⟨l, rfl, l48, lB⟩ := hcm c (List.mem_of_getElem? hc)
      have hct : ch.length < cs.length := (List.getElem?_eq_some_iff.mp hc).1
      have n1T := ne_of_none h61 hT
      have n2T := ne_of_none h62 hT
      obtain ⟨s7, t7, e7, hT7, -, -, -⟩ := scr s6 t6 hT eX.symm
      clear eX
      have h71 := e7 _ _ h61
      have h72 := e7 _ _ h62
      have hmk : mkS g sp' ch.length = decide ((t : Int) = (spt : Int)) := by
        rw [hcl, mkS_at tg, hspi]
        exact decide_eq_decide.mpr (by omega)
      have fin : ∀ (F8 : Hp) (cp : Addr) (c8 : List Int) (H8 : Hp), Src F8 H8 p → Stp (S1 p) F H F8 H8 → Same Fj F8 → F8 f1 = none → F8 f2 = none → H8 f1 = some (.lst acc) → H8 f2 = some (.lst (((List.range ch.length).map fun j => !mkS g sp' j).map V.bl)) → F8 cp = some (.lst (c8.map V.int)) → (c8.length = 56 ∧ isBits c8) → goodL c8 = !decide ((t : Int) = (spt : Int)) → (decide ((t : Int) = (spt : Int)) = false → cs[ch.length]? = some c8) →
          ∃ xs, H8 f1 = some (.lst xs) ∧ xs.length < sizeLine ∧ ∀ H9, H9 = upd H8 f1 (.lst (xs ++ [.ref cp])) → ∃ ys, H9 f2 = some (.lst ys) ∧ ys.length < sizeLine ∧ ∃ v9 v10 Fj acc ch, ([some (.ref p), some (.ref b), some (.int g), some (.ref a), some (.ref f1), some (.ref f2), some (.int ((i * (g + 1) : Nat) : Int)), some (.ref w), some (.int spt), some (.int (t : Int)), some (.ref cA), none, none] : L2.St) = [some (.ref p), some (.ref b), some (.int g), some (.ref a), some (.ref f1), some (.ref f2), some (.int ((i * (g + 1) : Nat) : Int)), some (.ref w), some (.int spt), v9, v10, none, none] ∧ Src Fj (upd H9 f2 (.lst (ys ++ [.bl (!decide ((t : Int) = (spt : Int)))]))) p ∧ Stp (S1 p) F H Fj (upd H9 f2 (.lst (ys ++ [.bl (!decide ((t : Int) = (spt : Int)))]))) ∧ Same F4 Fj ∧ Fj f1 = none ∧ Fj f2 = none ∧ (upd H9 f2 (.lst (ys ++ [.bl (!decide ((t : Int) = (spt : Int)))]))) f1 = some (.lst acc) ∧ RL Fj acc ch ∧ Chd (mkS g sp') cs ch ∧ ch.length = i * (g + 1) + (t + 1) ∧ (upd H9 f2 (.lst (ys ++ [.bl (!decide ((t : Int) = (spt : Int)))]))) f2 = some (.lst (((List.range ch.length).map fun j => !mkS g sp' j).map V.bl)) := by
        intro F8 cp c8 H8 s8 t8 e8 f81 f82 h81 h82 hcp hc8 hg8 hk8
        have hal := RL.len rl
        refine ⟨acc, h81, Nat.lt_of_lt_of_le (m := 10000) (by omega) (by decide), ?_⟩
        rintro H9 rfl
        obtain ⟨s9, t9⟩ := wrZ (o := .lst (acc ++ [.ref cp])) s8 t8 n1 f81 f01
        refine ⟨_, by rw [upd_ne n12.symm]; exact h82, Nat.lt_of_lt_of_le (m := 10000) (by simp; omega) (by decide), ?_⟩
        obtain ⟨s10, t10⟩ := wrZ (o := .lst (((List.range ch.length).map fun j => !mkS g sp' j).map V.bl ++ [.bl (!decide ((t : Int) = (spt : Int)))])) s9 t9 n2 f82 f02
        refine ⟨_, _, F8, acc ++ [.ref cp], ch ++ [c8], rfl, s10, t10, e46.trans e8, f81, f82, by rw [upd_ne n12, upd_same], RL.snoc (LV.mono e8 rl) hcp, chd.snoc hct hc8 (by rw [hmk]; exact hg8) (by rw [hmk]; exact hk8), by rw [List.length_append, List.length_singleton]; omega, ?_⟩
        rw [upd_same, List.length_append, List.length_singleton, List.range_succ, List.map_append, List.map_append, List.map_singleton, List.map_singleton, hmk]
      walk_at "r"
      refine ⟨.inl ⟨rfl, _, SqL.of h71⟩, ?_⟩
      walk_at "r"
      refine ifd (fun z => ?_) (fun z => ?_)
      · walk_at "r"
        refine ⟨rfl, Fj, p, cA, cellC l, rfl, s7, e46 _ _ hcA, cellC_len l48, fun u L F8 H8 s8 t8 hu ok => ?_⟩
        obtain ⟨xs, hx1, hx2, hx3⟩ := fin F8 u _ H8 s8 (t7.trans t8) t8.ff ((t8.fo _ _ h71).trans f61) ((t8.fo _ _ h72).trans f62) (t8.keep _ _ (fun z => n1 z) h71) (t8.keep _ _ (fun z => n2 z) h72) hu ⟨by rw [flipL_len]; exact cellC_len l48, flip_bits _ _ _ (cellC_bits lB)⟩ (by rw [flip_bad l48 lB ok, decide_eq_true z]; rfl) (fun w => absurd z (of_decide_eq_false w))
        refine ⟨f1, _, _, rfl, rfl, hx1, hx2, ?_⟩
        obtain ⟨ys, hy1, hy2, hy3⟩ := hx3 _ rfl
        walk_at "r"
        refine ⟨.inl ⟨rfl, _, SqL.of hy1⟩, ?_⟩
        walk_at "r"
        exact ⟨f2, _, _, rfl, rfl, hy1, hy2, hy3⟩
      · walk_at "r"
        obtain ⟨xs, hx1, hx2, hx3⟩ := fin Fj cA (cellC l) H7 s7 t7 (Same.refl _) f61 f62 h71 h72 (e46 _ _ hcA) ⟨cellC_len l48, cellC_bits lB⟩ (by rw [cell_good l48, decide_eq_false z]; rfl) (fun _ => hc)
        refine ⟨f1, _, _, rfl, rfl, hx1, hx2, ?_⟩
        obtain ⟨ys, hy1, hy2, hy3⟩ := hx3 _ rfl
        walk_at "r"
        refine ⟨.inl ⟨rfl, _, SqL.of hy1⟩, ?_⟩
        walk_at "r"
        exact ⟨f2, _, _, rfl, rfl, hy1, hy2, hy3⟩
    · rintro σ H6 ⟨v9, v10, Fj, acc, ch, rfl, s6, t6, e46, f61, f62, h61, rl, chd, hcl, h62⟩
      refine ⟨_, _, _, _, _, Fj, acc, ch, sp', rfl, s6, t6, f61, f62, h61, rl, chd, ?_, h62⟩
      rw [hcl, Nat.succ_mul]
      omega
  · rintro σ H3 ⟨v6, v7, v8, v9, v10, Fi, acc, ch, sp, rfl, s3, t3, fi1, fi2, h31, rl, chd, hcl, h32⟩
    have hcl : ch.length = cs.length := by
      have := chunk_cover (k := g + 1) (n := cs.length) (by omega)
      rw [hn] at hcl
      omega
    have h56 := chd_flat chd
    obtain ⟨hgood, hfl, hsz⟩ := size_ok (g := g) h56 (by omega) (by rw [hcl]; exact hcmod)
    walk_at "r"
    refine ⟨rfl, f1, acc, ch, rfl, SqL.of h31, LV.mono s3.1 rl, by omega, fun c hc => (h56 c hc).1, fun y1 H4 e4 y10 hy1 => ?_⟩
    obtain ⟨s4, t4⟩ := sameZ s3 t3 e4
    have h41 := e4 _ _ h31
    have h42 := e4 _ _ h32
    walk_at "r"
    refine ⟨rfl, y1, ch.flatten, (g : Int), rfl, SqL.of hy1, by omega, .inr (.inr (.inr ⟨hgood, ⟨by omega, by omega⟩, by rw [Int.toNat_natCast]; exact hsz, fun y2 H5 e5 y20 hy2 => ?_⟩))⟩
    obtain ⟨s5, t5⟩ := sameZ s4 t4 e5
    have h51 := e5 _ _ h41
    have h52 := e5 _ _ h42
    rw [chunk56 h56, chd_marks chd] at hy2
    walk_at "r"
    refine s_neB (SqL.of hy2) (SqL.of h52) ?_
    walk_at "r"
    refine ifn (fun _ => ?_) (fun z => absurd rfl z)
    walk_at "r"
    refine ⟨y2, rfl, ⟨_, SqL.of hy2⟩, ?_⟩
    refine lcW (walk_list (xs := ((List.range ch.length).map fun j => !mkS g sp j).map V.bl)) S0 s5.1 (fun _ z => z.elim) (fun F1 H1 st => st.same.seq (SqL.of hy2)) (fun i acc F1 H1 => acc = []) (fun _ _ _ _ _ _ _ _ _ r => r) rfl ?_ ?_
    · rintro j x acc5 d F6 H6 H7 hj ⟨rfl, hx⟩ hd nS st f0 e hl rr
      obtain ⟨bb, rfl⟩ : ∃ bb : Bool, x = .bl bb := by
        rw [List.getElem?_map] at hx
        cases z : ((List.range ch.length).map fun j => !mkS g sp j)[j]? with
        | none => rw [z] at hx; cases hx
        | some b => rw [z] at hx; exact ⟨b, (Option.some.inj hx).symm⟩
      walk_at "r"
      refine ⟨_, _, rfl, rfl, ?_⟩
      cases bb with
      | true =>
        refine ⟨false, rfl, ?_⟩
        walk_at "r"
        exact lc_skip hd nS st f0 e hl (.rfl' st.fh) rr
      | false =>
        refine ⟨true, rfl, ?_⟩
        walk_at "r"
        refine ⟨_, _, rfl, rfl, ?_⟩
        refine ⟨false, rfl, ?_⟩
        walk_at "r"
        exact lc_skip hd nS st f0 e hl (.rfl' st.fh) rr
    · intro d acc5 F6 F7 H6 st hd f0 ef st1 hl rr
      subst rr
      have hd6 : H6 d = some (.lst []) := by rw [ef] at st1; exact st1.fh _ _ upd_same
      obtain ⟨s6, t6⟩ := sameZ s5 t5 st.same
      have h61 := st.same _ _ h51
      walk_at "r"
      refine ⟨sz (by simp), fun w hw => ?_⟩
      generalize eX : upd H6 w _ = H7
      obtain ⟨s7, t7, e7, hw7, -, -, -⟩ := scr s6 t6 hw eX
      clear eX
      have h71 := e7 _ _ h61
      refine s_neL (ns := []) (ms := []) (SqL.of (e7 _ _ hd6)) (SqL.of hw7) ?_
      walk_at "r"
      refine ifn (fun _ => ?_) (fun z => absurd rfl z)
      walk_at "r"
      refine ⟨rfl, f1, acc, ch, rfl, SqL.of h71, LV.mono s7.1 rl, by omega, fun c hc => (h56 c hc).1, fun y3 H8 e8 y30 hy3 => ?_⟩
      obtain ⟨s8, t8⟩ := sameZ s7 t7 e8
      walk_at "r"
      refine ⟨rfl, y3, ch.flatten, (g : Int), rfl, SqL.of hy3, by omega, fun H9 e9 => ?_⟩
      have eo := open_told (g := g) (by omega) g8 bB bl (by rw [hcs]; exact chd) (by rw [hcs]; exact hcl) (mkS_marks g sp ch.length)
      rw [eo, if_neg (by simp), dueO_none]
      intro y4 y40 hy4
      rw [oV_some] at hy4
      obtain ⟨s9, t9⟩ := sameZ s8 t8 e9
      walk_at "r"
      refine s_eqL (SqL.of hy4) (SqL.of (s9.1 _ _ (t9.ff _ _ hb))) ?_
      rw [decide_eq_true rfl]
      exact q Fi H9 s9 t9
abbrev s_law_lost_right : Stmt := topS 50
theorem sc_law_lost_right : FnScope ["_law_source", "_law_bits_here", "_law_group", "_law_cells_here", "_law_groups", "_law_begin", "_law_many", "_law_one_here", "_law_other", "_law_changed", "_law_told", "_law_lost", "_law_ahead", "_law_due", "_law_at", "_law_cell", "_law_bit"] ["_law_source", "_law_bits_here", "_law_group", "_law_cells_here"] (defScope s_law_lost_right) := ⟨rfl, rfl, rfl, by decide +kernel, rfl, by decide +kernel, by decide +kernel⟩
def Ok_law_lost_right (P : Program) (w : World) (K : PySem.W.Frag) (mg : Str → Option Value) (base : Heap) : Prop := ∃ fA fd, Fn P w K mg base (L2.CX P w) 6 "_law_lost_right" s_law_lost_right fA fd ["_law_source", "_law_bits_here", "_law_group", "_law_cells_here"] (sp_law_lost_right K mg)
theorem okx_law_lost_right (Z : Zs K mg) {fA : Addr} {fd : FuncData} (F : Fun K "_law_lost_right" "_law_lost_right" s_law_lost_right fA fd) (m : mg "_law_lost_right" = some (.ref fA)) (C_law_count : Ok_law_count P w K mg base) (C_open_cells : Ok_open_cells P w K mg base) (C_law_joined : Ok_law_joined P w K mg base) (C_law_damaged : Ok_law_damaged P w K mg base) (C_law_take : Ok_law_take P w K mg base) (C_law_one : Ok_law_one P w K mg base) : Fn P w K mg base (L2.CX P w) 6 "_law_lost_right" s_law_lost_right fA fd ["_law_source", "_law_bits_here", "_law_group", "_law_cells_here"] (sp_law_lost_right K mg) := by
  obtain ⟨_, _, C_law_count⟩ := C_law_count
  obtain ⟨_, _, C_open_cells⟩ := C_open_cells
  obtain ⟨_, _, C_law_joined⟩ := C_law_joined
  obtain ⟨_, _, C_law_damaged⟩ := C_law_damaged
  obtain ⟨_, _, C_law_take⟩ := C_law_take
  obtain ⟨_, _, C_law_one⟩ := C_law_one
  refine ⟨F.okX sc_law_lost_right (fun vs H Q E h => h.1) (fun cdv A outer s H vs Q E hr h => ?_), m, F.kp, F.binds fun _ _ _ _ _ _ us hl => match us, hl with | [_, _, _, _], _ => rfl, F⟩
  have hu64 := hr.units
  obtain ⟨hlen, h⟩ := h
  refine ⟨_, (pss_cons (ps_setLc (i := 4) (own := [("_law_begin", 5)]) (g := gName 5) (tt := _) (by rfl) sc_law_lost_right.nd rfl rfl (sw_true rfl rfl rfl (by decide +kernel)) (pi_range3 rfl Z.z_range (pa_cons pe_int (pa_cons (pe_callB (c_len K rfl) (by rfl) Z.z_len (by decide +kernel) (pa_cons (pv 3) pa_nil)) (pa_cons (pe_op op_add (pv 2) pe_int) pa_nil)))) (blkOk_by (own := [("_law_begin", 5)]) (N := ["_law_source", "_law_bits_here", "_law_group", "_law_cells_here", "_law_groups", "_law_begin", "_law_many", "_law_one_here", "_law_other", "_law_changed", "_law_told", "_law_lost", "_law_ahead", "_law_due", "_law_at", "_law_cell", "_law_bit"]) (sc := defScope s_law_lost_right) (by decide +kernel)) (fun _ _ _ _ _ => (pg_name (i := 5) sc_law_lost_right.nd rfl (Or.inl rfl))) (fun _ _ _ _ _ => pts_one (pt_cmpR op_gt (pe_callB (c_min2 rfl) (by rfl) Z.z_min (by decide +kernel) (pa_cons (pe_op op_sub (pe_callB (c_len K rfl) (by rfl) Z.z_len (by decide +kernel) (pa_cons (pv 3) pa_nil)) (pv 5)) (pa_cons (pe_op op_add (pv 2) pe_int) pa_nil))) pe_int (nomark _))) (fun _ _ _ _ _ => (pv 5)))
    (pss_cons (ps_if (pt_cmpR (o_eqD K rfl hu64) (pv 4) (pe_lst pa_nil) (nomark _))
      (pss_one (ps_ret pe_bl))
      pss_nil)
    (pss_cons (ps_set (i := 5) sc_law_lost_right.nd rfl (Or.inr rfl) (pe_call C_law_one.G (hr.mono (by decide)) rfl C_law_one.m C_law_one.kp C_law_one.b .nil passL (pa_cons (pv 0) (pa_cons (pv 4) pa_nil))))
    (pss_cons (ps_set (i := 6) sc_law_lost_right.nd rfl (Or.inl rfl) (pe_op op_sub (pe_callB (c_min2 rfl) (by rfl) Z.z_min (by decide +kernel) (pa_cons (pe_op op_sub (pe_callB (c_len K rfl) (by rfl) Z.z_len (by decide +kernel) (pa_cons (pv 3) pa_nil)) (pv 5)) (pa_cons (pe_op op_add (pv 2) pe_int) pa_nil))) pe_int))
    (pss_cons (ps_set (i := 7) sc_law_lost_right.nd rfl (Or.inr rfl) (pe_call C_law_take.G (hr.mono (by decide)) rfl C_law_take.m C_law_take.kp C_law_take.b .nil passL (pa_cons (pv 0) (pa_cons (pv 6) pa_nil))))
    (pss_cons (ps_set (i := 8) sc_law_lost_right.nd rfl (Or.inr rfl) (pe_op op_mod (pe_op op_add (pe_op op_add (pv 7) pe_int) (pe_call C_law_take.G (hr.mono (by decide)) rfl C_law_take.m C_law_take.kp C_law_take.b .nil passL (pa_cons (pv 0) (pa_cons (pe_op op_sub (pv 6) pe_int) pa_nil)))) (pv 6)))
    (pss_cons (ps_setLc (i := 9) (own := [("_law_at", 14), ("_law_cell", 15)]) (g := gTup K 2 (gCons (gName 14) (gCons (gName 15) gNil))) (tt := tYes) (by rfl) sc_law_lost_right.nd rfl rfl (sw_true rfl rfl rfl (by decide +kernel)) (pi_enum (by rfl) Z.z_enumerate (pa_cons (pv 3) pa_nil)) (blkOk_by (own := [("_law_at", 14), ("_law_cell", 15)]) (N := ["_law_source", "_law_bits_here", "_law_group", "_law_cells_here", "_law_groups", "_law_begin", "_law_many", "_law_one_here", "_law_other", "_law_changed", "_law_told", "_law_lost", "_law_ahead", "_law_due", "_law_at", "_law_cell", "_law_bit"]) (sc := defScope s_law_lost_right) (by decide +kernel)) (fun _ _ _ _ _ => (pg_tup rfl (pgs_cons (pg_name (i := 14) sc_law_lost_right.nd rfl (Or.inl rfl) (Or.inr rfl)) (pgs_cons (pg_name (i := 15) sc_law_lost_right.nd rfl (Or.inl rfl) (Or.inr rfl)) pgs_nil)))) (fun _ _ _ _ _ => pts_nil) (fun _ _ _ _ _ => (pe_ifExp (pt_cmpR (o_in K rfl) (pv 14) (pe_lst (pa_cons (pe_op op_add (pv 5) (pv 7)) (pa_cons (pe_op op_add (pv 5) (pv 8)) pa_nil))) rfl) (pe_call C_law_damaged.G (hr.mono (by decide)) rfl C_law_damaged.m C_law_damaged.kp C_law_damaged.b .nil passL (pa_cons (pv 0) (pa_cons (pv 15) pa_nil))) (pv 15))))
    (pss_cons (ps_set (i := 10) sc_law_lost_right.nd rfl (Or.inl rfl) (pe_call C_open_cells.G (hr.mono (by decide)) rfl C_open_cells.m C_open_cells.kp C_open_cells.b .nil passL (pa_cons (pe_call C_law_joined.G (hr.mono (by decide)) rfl C_law_joined.m C_law_joined.kp C_law_joined.b .nil passL (pa_cons (pv 9) pa_nil)) (pa_cons (pv 2) pa_nil))))
    (pss_cons (ps_if (pt_cmpR op_eq (pe_op op_add (pv 5) (pe_callB (c_min2 rfl) (by rfl) Z.z_min (by decide +kernel) (pa_cons (pv 7) (pa_cons (pv 8) pa_nil)))) pe_int (nomark _))
      (pss_one (ps_ret (pe_cmpR op_isN (pv 10) pe_non (nomark _))))
      pss_nil)
    (pss_cons (ps_set (i := 11) sc_law_lost_right.nd rfl (Or.inr rfl) (pe_lc (own := [("_law_at", 14)]) (g := gName 14) (tt := tYes) (by rfl) sc_law_lost_right.nd (pi_list (pe_lst (pa_cons (pv 7) (pa_cons (pv 8) pa_nil)))) (blkOk_by (own := [("_law_at", 14)]) (N := ["_law_source", "_law_bits_here", "_law_group", "_law_cells_here", "_law_groups", "_law_begin", "_law_many", "_law_one_here", "_law_other", "_law_changed", "_law_told", "_law_lost", "_law_ahead", "_law_due", "_law_at", "_law_cell", "_law_bit"]) (sc := defScope s_law_lost_right) (by decide +kernel)) (fun _ _ _ _ _ => (pg_name (i := 14) sc_law_lost_right.nd rfl (Or.inl rfl))) (fun _ _ _ _ _ => pts_nil) (fun _ _ _ _ _ => (pe_op op_add (pe_op op_mul (pe_op op_fdiv (pv 5) (pe_op op_add (pv 2) pe_int)) (pv 2)) (pv 14)))))
    (pss_cons (ps_set (i := 12) sc_law_lost_right.nd rfl (Or.inr rfl) (pe_callB (c_len K rfl) (by rfl) Z.z_len (by decide +kernel) (pa_cons (pe_call C_law_count.G (hr.mono (by decide)) rfl C_law_count.m C_law_count.kp C_law_count.b .nil passL (pa_cons (pe_callB (c_len K rfl) (by rfl) Z.z_len (by decide +kernel) (pa_cons (pv 1) pa_nil)) pa_nil)) pa_nil)))
    (pss_cons (ps_setLc (i := 13) (own := [("_law_at", 14), ("_law_bit", 16)]) (g := gTup K 2 (gCons (gName 14) (gCons (gName 16) gNil))) (tt := tYes) (by rfl) sc_law_lost_right.nd rfl rfl (sw_true rfl rfl rfl (by decide +kernel)) (pi_enum (by rfl) Z.z_enumerate (pa_cons (pv 1) pa_nil)) (blkOk_by (own := [("_law_at", 14), ("_law_bit", 16)]) (N := ["_law_source", "_law_bits_here", "_law_group", "_law_cells_here", "_law_groups", "_law_begin", "_law_many", "_law_one_here", "_law_other", "_law_changed", "_law_told", "_law_lost", "_law_ahead", "_law_due", "_law_at", "_law_cell", "_law_bit"]) (sc := defScope s_law_lost_right) (by decide +kernel)) (fun _ _ _ _ _ => (pg_tup rfl (pgs_cons (pg_name (i := 14) sc_law_lost_right.nd rfl (Or.inl rfl) (Or.inr rfl)) (pgs_cons (pg_name (i := 16) sc_law_lost_right.nd rfl (Or.inl rfl) (Or.inr rfl)) pgs_nil)))) (fun _ _ _ _ _ => pts_nil) (fun _ _ _ _ _ => (pe_ifExp (pt_cmpR (o_in K rfl) (pe_op op_fdiv (pe_op op_add (pv 12) (pv 14)) pe_int) (pv 11) rfl) pe_non (pv 16))))
    (pss_one (ps_ret (pe_cmpR (o_eqD K rfl hu64) (pv 10) (pv 13) (nomark _)))))))))))))))), ?_⟩
  obtain ⟨F, p, b, a, bs, g, us, rfl, hs, hb, bB, bl, g1, g8, ha, hR, q⟩ := h
  obtain ⟨lds, hcm, hc0, hc20, hcmod⟩ := cells_facts (g := g) (by omega) bB bl
  obtain ⟨cs, hcs⟩ : ∃ cs, cellsC g (loadsC bs) = cs := ⟨_, rfl⟩
  rw [hcs] at hR hcm hc0 hc20 hcmod
  have hul := RL.len hR
  walk_at "r"
  refine s_len (SqL.of (hs.1 _ _ ha)) ?_
  walk_at "r"
  have hn : (chunk (g + 1) cs).length = (cs.length + (g + 1) - 1) / (g + 1) := chunk_len (by omega) cs
  have en : (((us.length : Nat) : Int) + (((g : Nat) : Int) + 1) - 1) / (((g : Nat) : Int) + 1) = (((chunk (g + 1) cs).length : Nat) : Int) := by
    rw [hn, Int.natCast_ediv, hul]
    congr 1
    omega
  have hnb : (chunk (g + 1) cs).length ≤ 40 := by
    rw [hn]; exact Nat.le_trans (Nat.div_le_self _ _) (by omega)
  refine ⟨_, _, _, (chunk (g + 1) cs).length, rfl, ?_, ?_⟩
  · have := rgc_up (L := ((us.length : Nat) : Int)) (k := ((g : Nat) : Int) + 1) (by omega) (by omega) (by omega) (by omega)
    rw [en, Int.toNat_natCast] at this
    exact this
  refine lcW walk_rangeC S0 hs.1 (fun _ z => z.elim) (fun _ _ _ => trivial) (fun i acc F H => ∃ L : List Nat, acc = litP L ∧ L.length ≤ i ∧ ∀ x ∈ L, ∃ k, x = k * (g + 1) ∧ x < cs.length ∧ 2 < min (cs.length - x) (g + 1)) (fun _ _ _ _ _ _ _ _ _ r => r) ⟨[], rfl, by simp, by simp⟩ ?_ ?_
  · rintro i x acc d F1 H1 H2 hi ⟨rfl, rfl⟩ hd nS st f0 e hl ⟨L, rl, rn, rb⟩
    have hik := chunk_under (k := g + 1) (n := cs.length) (by omega) (by rw [← hn]; exact hi)
    have ei : (0 : Int) + (i : Int) * (((g : Nat) : Int) + 1) = ((i * (g + 1) : Nat) : Int) := by simp
    dsimp only; rw [ei]
    walk_at "r"
    refine s_len (SqL.of (st.same _ _ (hs.1 _ _ ha))) ?_
    walk_at "r"
    refine ifd (fun z => ?_) (fun z => ?_)
    · walk_at "r"
      refine lc_end hd nS st f0 e hl (by omega) (.rfl' st.fh) ⟨L ++ [i * (g + 1)], ?_, by rw [List.length_append, List.length_singleton]; omega, fun y hy => ?_⟩
      · rw [rl]; simp [litP]
      · rcases List.mem_append.mp hy with hy | hy
        · exact rb y hy
        · rw [List.mem_singleton] at hy
          refine ⟨i, hy, by omega, ?_⟩
          rw [hy]
          split at z <;> omega
    · exact lc_skip hd nS st f0 e hl (.rfl' st.fh) ⟨L, rl, by omega, rb⟩
  · intro d acc F0 F1 H1 st0 hd f0 ef st hl ⟨L, rl, rn, rb⟩
    have hd1 : F1 d = some (.lst acc) := by rw [ef]; exact upd_same
    obtain ⟨s1, t1⟩ := stpZ hs (.rfl' hs.1) st
    have ff1 := st.ff
    clear st ef f0 st0 F0
    walk_at "r"
    refine ⟨sz (by simp), fun w hw => ?_⟩
    generalize eX : upd H1 w _ = H2
    obtain ⟨s2, t2, e2, hw2, -, -, -⟩ := scr s1 t1 hw eX
    clear eX
    have hd2 := s2.1 _ _ hd1
    rw [rl] at hd2
    refine s_eqL (ms := []) (SqL.of hd2) (SqL.of hw2) ?_
    walk_at "r"
    refine ifd (fun z => ?_) (fun z => ?_)
    · walk_at "r"
      exact q _ _ s2 t2
    have hLne : L ≠ [] := fun w => z (by rw [w]; rfl)
    have hL0 : 0 < L.length := List.length_pos_iff.mpr hLne
    walk_at "r"
    refine ⟨rfl, F1, p, d, _, rfl, s2, SqL.of (by rw [hd1, rl]; rfl), by rw [List.length_map]; omega, by rw [List.length_map]; omega, fun r3 H3 s3 t3 hr3 => ?_⟩
    replace t3 := t2.trans t3
    obtain ⟨x, hxL, rfl⟩ := List.mem_map.mp hr3
    obtain ⟨k, rfl, hxc, hx2⟩ := rb x hxL
    walk_at "r"
    refine s_len (SqL.of (s3.1 _ _ (ff1 _ _ ha))) ?_
    walk_at "r"
    obtain ⟨mn, hmn, hmn2⟩ : ∃ mn : Nat, (if ((g : Nat) : Int) + 1 < ((us.length : Nat) : Int) - ((k * (g + 1) : Nat) : Int) then ((g : Nat) : Int) + 1 else ((us.length : Nat) : Int) - ((k * (g + 1) : Nat) : Int)) - 1 = (mn : Int) ∧ mn = min (cs.length - k * (g + 1)) (g + 1) - 1 := by
      refine ⟨_, ?_, rfl⟩
      split <;> omega
    rw [hmn]
    refine ⟨rfl, F1, p, _, rfl, s3, by omega, by omega, fun r4 H4 s4 t4 r40 r41 => ?_⟩
    obtain ⟨o1, rfl⟩ : ∃ o1 : Nat, r4 = (o1 : Int) := ⟨r4.toNat, by omega⟩
    replace t4 := t3.trans t4
    walk_at "r"
    refine ⟨rfl, F1, p, _, rfl, s4, by omega, by omega, fun r5 H5 s5 t5 r50 r51 => ?_⟩
    replace t5 := t4.trans t5
    walk_at "r"
    obtain ⟨o2, ho2, ho2m, ho12⟩ : ∃ o2 : Nat, ((o1 : Int) + 1 + r5) % (mn : Int) = (o2 : Int) ∧ o2 < mn ∧ o1 ≠ o2 := by
      refine ⟨(((o1 : Int) + 1 + r5) % (mn : Int)).toNat, ?_, ?_, ?_⟩
      · have := Int.emod_nonneg ((o1 : Int) + 1 + r5) (show (mn : Int) ≠ 0 by omega)
        omega
      · have := Int.emod_lt_of_pos ((o1 : Int) + 1 + r5) (show (0 : Int) < (mn : Int) by omega)
        have := Int.emod_nonneg ((o1 : Int) + 1 + r5) (show (mn : Int) ≠ 0 by omega)
        omega
      · by_cases w : (o1 : Int) + 1 + r5 < (mn : Int)
        · rw [Int.emod_eq_of_lt (by omega) w]; omega
        · have e : ((o1 : Int) + 1 + r5) % (mn : Int) = (o1 : Int) + 1 + r5 - mn := by
            rw [← Int.sub_emod_right, Int.emod_eq_of_lt (by omega) (by omega)]
          rw [e]; omega
    rw [ho2]
    have hk1 : k * (g + 1) + o1 < cs.length := by omega
    have hk2 : k * (g + 1) + o2 < cs.length := by omega
    have hcs0 := hcs
    refine s_iE ?_
    walk_at "r"
    refine ⟨a, us, rfl, SqL.of (s5.1 _ _ (ff1 _ _ ha)), ?_⟩
    refine lcW (walk_enum (xs := us)) (S1 p) s5.1 (fun b e => e ▸ s5.dom) (fun F6 H6 st => SqL.of (st.fh _ _ (st.ff _ _ (ff1 _ _ ha)))) (fun i acc F6 H6 => Src F6 H6 p ∧ ∃ ch, RL F6 acc ch ∧ Chd (mkT (k * (g + 1)) o1 o2) cs ch ∧ ch.length = i)
      (fun _ _ _ _ _ _ n f _ r => ⟨r.1.upd n f, r.2⟩) ⟨s5, [], .nil, .nil, rfl⟩ ?_ ?_
    · rintro i x acc d6 F6 H6 H7 hi ⟨T, x1, y1, rfl, hT, eX, hx1, hy1⟩ hd6 nS st f0 e hl ⟨s6, ch, rl6, chd, chl⟩
      obtain rfl := Option.some.inj hx1
      obtain ⟨cA, c, rfl, hc, hcA⟩ := RL.get hR i hy1
      obtain ⟨l, rfl, l48, lB⟩ := hcm c (List.mem_of_getElem? hc)
      have hic : i < cs.length := (List.getElem?_eq_some_iff.mp hc).1
      have hcA6 : F6 cA = some (.lst ((cellC l).map V.int)) := st.ff _ _ (ff1 _ _ hcA)
      have e7 : Same H6 H7 := by rw [eX]; exact (Stp.new (S := S0) (Same.refl _) hT).same
      have hT7 : H7 T = some (.tup [.int (i : Int), .ref cA]) := by rw [eX]; exact upd_same
      have s7 := s6.of e7
      have st7 : Stp (S1 p) F6 H6 F6 H7 := .ofSame s6.1 e7
      clear eX
      walk_at "r"
      refine ⟨sz (by simp), fun w2 hw2 => ?_⟩
      have e8 := (Stp.new (S := S0) (o := .lst [.int (((k * (g + 1) : Nat) : Int) + (o1 : Int)), .int (((k * (g + 1) : Nat) : Int) + (o2 : Int))]) (Same.refl H7) hw2).same
      have hw8 : upd H7 w2 (.lst [.int (((k * (g + 1) : Nat) : Int) + (o1 : Int)), .int (((k * (g + 1) : Nat) : Int) + (o2 : Int))]) w2 = some (.lst ([((k * (g + 1) : Nat) : Int) + (o1 : Int), ((k * (g + 1) : Nat) : Int) + (o2 : Int)].map V.int)) := upd_same
      generalize upd H7 w2 _ = H8 at e8 hw8 ⊢
      have s8 := s7.of e8
      have st8 : Stp (S1 p) F6 H6 F6 H8 := st7.trans (.ofSame s7.1 e8)
      refine s_inI (SqL.of hw8) ?_
      walk_at "r"
      have hmk : mkT (k * (g + 1)) o1 o2 ch.length = decide ((i : Int) ∈ [((k * (g + 1) : Nat) : Int) + (o1 : Int), ((k * (g + 1) : Nat) : Int) + (o2 : Int)]) := by
        rw [chl]
        unfold mkT
        refine decide_eq_decide.mpr ?_
        simp only [List.mem_cons, List.not_mem_nil, or_false]
        omega
      refine ifd (fun z => ?_) (fun z => ?_)
      · walk_at "r"
        refine ⟨rfl, F6, p, cA, cellC l, rfl, s8, hcA6, cellC_len l48, fun u L' F9 H9 s9 t9 hu ok => ?_⟩
        refine lc_end hd6 nS st f0 e hl (by omega) (st8.trans t9) ⟨s9.upd nS ((t9.fo _ _ (st8.keep _ _ nS e)).trans f0), ch ++ [_], RL.snoc (LV.mono t9.ff rl6) hu, chd.snoc (by omega) ⟨by rw [flipL_len]; exact cellC_len l48, flip_bits _ _ _ (cellC_bits lB)⟩ (by rw [hmk, flip_bad l48 lB ok, decide_eq_true z]; rfl) (fun w => by rw [hmk, decide_eq_true z] at w; cases w), by rw [List.length_append, List.length_singleton, chl]⟩
      · walk_at "r"
        refine lc_end hd6 nS st f0 e hl (by omega) st8 ⟨s8.upd nS f0, ch ++ [_], RL.snoc rl6 hcA6, chd.snoc (by omega) ⟨cellC_len l48, cellC_bits lB⟩ (by rw [hmk, cell_good l48, decide_eq_false z]; rfl) (fun _ => by rw [chl]; exact hc), by rw [List.length_append, List.length_singleton, chl]⟩
    · intro d6 acc6 F6 F7 H7 st6 hd6 f06 ef6 st7 hl6 ⟨s6, ch, rl6, chd, chl⟩
      have hF7 : F7 d6 = some (.lst acc6) := by rw [ef6]; exact upd_same
      have s7 : Src F7 H7 p := by rw [ef6]; exact s6.frz (s5.ne hd6) (ef6 ▸ st7.fh)
      have rl7 : RL F7 acc6 ch := LV.mono (by rw [ef6]; exact fun b u e => by rw [upd_ne (ne_of_none e f06)]; exact e) rl6
      have t7 := t5.trans st7
      have ff7 := ff1.trans st7.ff
      clear ef6 f06 st7 st6 s6 rl6
      rw [hul] at chl
      have h56 := chd_flat chd
      obtain ⟨hgood, hfl, hsz⟩ := size_ok (g := g) h56 (by omega) (by rw [chl]; exact hcmod)
      have eo := open_told (g := g) (lost := mkT (k * g) o1 o2) (by omega) g8 bB bl (by rw [hcs]; exact chd) (by rw [hcs]; exact chl) (mkT_marks (by omega) (by omega) ho12 (by omega) (by omega) (by omega) (by omega))
      walk_at "r"
      refine ⟨rfl, d6, acc6, ch, rfl, SqL.of (s7.1 _ _ hF7), LV.mono s7.1 rl7, by omega, fun c hc => (h56 c hc).1, fun y3 H8 e8 y30 hy3 => ?_⟩
      obtain ⟨s8, t8⟩ := sameZ s7 t7 e8
      walk_at "r"
      refine ⟨rfl, y3, ch.flatten, (g : Int), rfl, SqL.of hy3, by omega, fun H9 e9 => ?_⟩
      obtain ⟨s9, t9⟩ := sameZ s8 t8 e9
      rw [eo]
      have hz0 : ∀ (v : Int), v = (if (o2 : Int) < (o1 : Int) then (o2 : Int) else (o1 : Int)) → (((k * (g + 1) : Nat) : Int) + v = 0 ↔ mkT (k * g) o1 o2 0 = true) := by
        intro v hv
        unfold mkT
        rw [decide_eq_true_iff, hv]
        cases k with
        | zero =>
          simp only [Nat.zero_mul]
          split <;> omega
        | succ k =>
          have e1 : 0 < (k + 1) * (g + 1) := Nat.mul_pos (by omega) (by omega)
          have e2 : 0 < (k + 1) * g := Nat.mul_pos (by omega) (by omega)
          constructor
          · intro h; split at h <;> omega
          · intro h; omega
      by_cases hl0 : mkT (k * g) o1 o2 0 = true
      · rw [if_pos hl0]
        dsimp only [OpQ]
        walk_at "r"
        refine ifd (fun z => ?_) (fun z => absurd ((hz0 _ rfl).mpr hl0) z)
        walk_at "r"
        refine ⟨rfl, ?_⟩
        exact q _ _ s9 t9
      · rw [if_neg hl0]
        intro y4 y40 hy4
        walk_at "r"
        refine ifd (fun z => absurd ((hz0 _ rfl).mp z) hl0) (fun z => ?_)
        walk_at "r"
        refine ⟨sz (by simp), fun w2 hw2 => ?_⟩
        generalize eX : upd H9 w2 _ = H10
        obtain ⟨s10, t10, e10, hw10, -, -, -⟩ := scr s9 t9 hw2 eX
        clear eX
        replace hy4 := e10 _ _ hy4
        refine ⟨w2, rfl, ⟨_, SqL.of hw10⟩, ?_⟩
        refine lcW (walk_list (xs := [.int (o1 : Int), .int (o2 : Int)])) S0 s10.1 (fun _ z => z.elim) (fun F1 H1 st => SqL.of (st.same _ _ hw10)) (fun i acc F H => acc = ([((k * g : Nat) : Int) + (o1 : Int), ((k * g : Nat) : Int) + (o2 : Int)].map V.int).take i) (fun _ _ _ _ _ _ _ _ _ r => r) rfl ?_ ?_
        · rintro j x acc11 d11 F11 H11 H12 hj ⟨rfl, hx⟩ hd11 nS st11 f011 e11 hl11 rr
          have hj2 : j < 2 := hj
          have hkd : ((k * (g + 1) : Nat) : Int) / ((g : Int) + 1) * (g : Int) = ((k * g : Nat) : Int) := by
            rw [show ((k * (g + 1) : Nat) : Int) = (k : Int) * ((g : Int) + 1) by simp, Int.mul_ediv_cancel _ (by omega)]
            simp
          obtain ⟨o, rfl, ho⟩ : ∃ o : Nat, x = .int (o : Int) ∧ ([((k * g : Nat) : Int) + (o1 : Int), ((k * g : Nat) : Int) + (o2 : Int)].map V.int)[j]? = some (.int (((k * g : Nat) : Int) + (o : Int))) := by
            rcases (show j = 0 ∨ j = 1 by omega) with rfl | rfl
            · exact ⟨o1, (Option.some.inj hx).symm, rfl⟩
            · exact ⟨o2, (Option.some.inj hx).symm, rfl⟩
          walk_at "r"
          rw [hkd]
          refine lc_end hd11 nS st11 f011 e11 hl11 (by omega) (.rfl' st11.fh) ?_
          have hj3 := (List.getElem?_eq_some_iff.mp ho).1
          have hj4 := (List.getElem?_eq_some_iff.mp ho).2
          rw [rr, List.take_succ_eq_append_getElem hj3, hj4]
        · intro d11 acc11 F11 F12 H12 st11 hd11 f011 ef11 st12 hl11 rr
          have hd12 : H12 d11 = some (.lst ([((k * g : Nat) : Int) + (o1 : Int), ((k * g : Nat) : Int) + (o2 : Int)].map V.int)) := by
            rw [ef11] at st12
            rw [st12.fh _ _ upd_same, rr]; rfl
          obtain ⟨s12, t12⟩ := sameZ s10 t10 st11.same
          replace hy4 := st11.same _ _ hy4
          walk_at "r"
          refine s_len (SqL.of (s12.1 _ _ (ff7 _ _ hb))) ?_
          walk_at "r"
          refine ⟨rfl, bs.length, by rw [List.length_map]; rfl, by omega, fun y5 H13 e13 y50 hy5 => ?_⟩
          obtain ⟨s13, t13⟩ := sameZ s12 t12 e13
          replace hy4 := e13 _ _ hy4
          replace hd12 := e13 _ _ hd12
          walk_at "r"
          refine s_iE ?_
          walk_at "r"
          refine ⟨b, _, rfl, SqL.of (s13.1 _ _ (ff7 _ _ hb)), ?_⟩
          refine lcW (walk_enum (xs := bs.map V.int)) S0 s13.1 (fun _ z => z.elim) (fun F6 H6 st => SqL.of (st.same _ _ (s13.1 _ _ (ff7 _ _ hb)))) (fun i acc F6 H6 => acc = ((dueO (mkT (k * g) o1 o2) bs).map oV).take i) (fun _ _ _ _ _ _ _ _ _ r => r) rfl ?_ ?_
          · rintro j x acc14 d14 F14 H14 H15 hj ⟨T, x1, y1, rfl, hT, eX, hx1, hy1⟩ hd14 nS st14 f014 e14 hl14 rr
            obtain rfl := Option.some.inj hx1
            dsimp only at hy1
            have hjb : j < bs.length := by
              have hj' : j < (bs.map V.int).length := hj
              rwa [List.length_map] at hj'
            rw [List.getElem?_map, List.getElem?_eq_getElem hjb] at hy1
            obtain rfl := Option.some.inj hy1
            have e15 : Same H14 H15 := by rw [eX]; exact (Stp.new (S := S0) (Same.refl _) hT).same
            have hT15 : H15 T = some (.tup [.int (j : Int), .int bs[j]]) := by rw [eX]; exact upd_same
            have st15 : Stp S0 F14 H14 F14 H15 := .ofSame st14.fh e15
            clear eX
            have hd15 := (st14.same.trans e15) _ _ hd12
            have hda := dueO_at (lost := mkT (k * g) o1 o2) hjb
            have hdl : j < ((dueO (mkT (k * g) o1 o2) bs).map oV).length := by rw [List.length_map, dueO_len]; exact hjb
            have hlk : mkT (k * g) o1 o2 (((countL bs.length).length + j) / 48) = decide (((((countL bs.length).length : Nat) : Int) + (j : Int)) / 48 ∈ [((k * g : Nat) : Int) + (o1 : Int), ((k * g : Nat) : Int) + (o2 : Int)]) := by
              unfold mkT
              refine decide_eq_decide.mpr ?_
              simp only [List.mem_cons, List.not_mem_nil, or_false]
              omega
            walk_at "r"
            rw [List.length_map]
            refine s_inI (SqL.of hd15) ?_
            walk_at "r"
            refine ifd (fun z => ?_) (fun z => ?_)
            · walk_at "r"
              refine lc_end hd14 nS st14 f014 e14 hl14 (by omega) st15 ?_
              rw [if_pos (by rw [hlk]; exact decide_eq_true z)] at hda
              rw [rr, List.take_succ_eq_append_getElem hdl, List.getElem_map, (List.getElem?_eq_some_iff.mp hda).2]; rfl
            · walk_at "r"
              refine lc_end hd14 nS st14 f014 e14 hl14 (by omega) st15 ?_
              rw [if_neg (by rw [hlk, decide_eq_false z]; simp)] at hda
              rw [rr, List.take_succ_eq_append_getElem hdl, List.getElem_map, (List.getElem?_eq_some_iff.mp hda).2]; rfl
          · intro d14 acc14 F14 F15 H15 st14 hd14 f014 ef14 st15 hl14 rr
            have hd15 : H15 d14 = some (.lst ((dueO (mkT (k * g) o1 o2) bs).map oV)) := by
              rw [ef14] at st15
              rw [st15.fh _ _ upd_same, rr, List.take_of_length_le (by rw [List.length_map, List.length_map, dueO_len]; exact Nat.le_refl _)]
            obtain ⟨s15, t15⟩ := sameZ s13 t13 st14.same
            replace hy4 := st14.same _ _ hy4
            walk_at "r"
            refine s_eqFl (SqL.of hy4) (SqL.of hd15) (flatW_os _) ?_
            exact q _ _ s15 t15
abbrev s_law : Stmt := topS 51
theorem sc_law : FnScope ["_law_script", "_law_k", "_law_source", "_law_bits_here", "_law_group", "_law_cells_here"] ["_law_script"] (defScope s_law) := ⟨rfl, rfl, rfl, by decide +kernel, rfl, by decide +kernel, by decide +kernel⟩
def Ok_law (P : Program) (w : World) (K : PySem.W.Frag) (mg : Str → Option Value) (base : Heap) : Prop := ∃ fA fd, Fn P w K mg base (L2.CX P w) 7 "law" s_law fA fd ["_law_script"] (sp_law K mg)
theorem okx_law (Z : Zs K mg) {fA : Addr} {fd : FuncData} (F : Fun K "law" "law" s_law fA fd) (m : mg "law" = some (.ref fA)) (C_law_lost_right : Ok_law_lost_right P w K mg base) (C_law_opened_right : Ok_law_opened_right P w K mg base) (C_protect : Ok_protect P w K mg base) (C_law_joined : Ok_law_joined P w K mg base) (C_law_cells : Ok_law_cells P w K mg base) (C_law_loads : Ok_law_loads P w K mg base) (C_law_count : Ok_law_count P w K mg base) (C_law_take : Ok_law_take P w K mg base) (C_law_bits : Ok_law_bits P w K mg base) (C_law_pool : Ok_law_pool P w K mg base) : Fn P w K mg base (L2.CX P w) 7 "law" s_law fA fd ["_law_script"] (sp_law K mg) := by
  obtain ⟨_, _, C_law_lost_right⟩ := C_law_lost_right
  obtain ⟨_, _, C_law_opened_right⟩ := C_law_opened_right
  obtain ⟨_, _, C_protect⟩ := C_protect
  obtain ⟨_, _, C_law_joined⟩ := C_law_joined
  obtain ⟨_, _, C_law_cells⟩ := C_law_cells
  obtain ⟨_, _, C_law_loads⟩ := C_law_loads
  obtain ⟨_, _, C_law_count⟩ := C_law_count
  obtain ⟨_, _, C_law_take⟩ := C_law_take
  obtain ⟨_, _, C_law_bits⟩ := C_law_bits
  obtain ⟨_, _, C_law_pool⟩ := C_law_pool
  refine ⟨F.okX sc_law (fun vs H Q E h => h.1) (fun cdv A outer s H vs Q E hr h => ?_), m, F.kp, F.binds fun _ _ _ _ _ _ us hl => match us, hl with | [_], _ => rfl, F⟩
  have hu64 := hr.units
  obtain ⟨hlen, h⟩ := h
  refine ⟨_, (pss_cons (ps_for (passes_of rfl) rfl (pi_range1 rfl Z.z_range (pa_cons (pe_callB (c_max2 rfl) (by rfl) Z.z_max (by decide +kernel) (pa_cons pe_int (pa_cons (pe_callB (c_min2 rfl) (by rfl) Z.z_min (by decide +kernel) (pa_cons pe_int (pa_cons (pe_callB (c_len K rfl) (by rfl) Z.z_len (by decide +kernel) (pa_cons (pv 0) pa_nil)) pa_nil))) pa_nil))) pa_nil)) (pg_name (i := 1) sc_law.nd rfl (Or.inl rfl))
      (pss_cons (ps_set (i := 2) sc_law.nd rfl (Or.inl rfl) (pe_call C_law_pool.G (hr.mono (by decide)) rfl C_law_pool.m C_law_pool.kp C_law_pool.b .nil passL (pa_cons (pv 0) (pa_cons (pv 1) pa_nil))))
    (pss_cons (ps_par (i := 3) (j := 4) (by rfl) sc_law.nd rfl rfl (by decide) rfl rfl (pa_cons (pe_call C_law_bits.G (hr.mono (by decide)) rfl C_law_bits.m C_law_bits.kp C_law_bits.b .nil passL (pa_cons (pv 2) pa_nil)) (pa_cons (pe_op op_add pe_int (pe_call C_law_take.G (hr.mono (by decide)) rfl C_law_take.m C_law_take.kp C_law_take.b .nil passL (pa_cons (pv 2) (pa_cons pe_int pa_nil)))) pa_nil)) (by rfl))
    (pss_cons (ps_set (i := 5) sc_law.nd rfl (Or.inl rfl) (pe_call C_law_cells.G (hr.mono (by decide)) rfl C_law_cells.m C_law_cells.kp C_law_cells.b .nil passL (pa_cons (pe_call C_law_loads.G (hr.mono (by decide)) rfl C_law_loads.m C_law_loads.kp C_law_loads.b .nil passL (pa_cons (pe_op op_cat (pe_call C_law_count.G (hr.mono (by decide)) rfl C_law_count.m C_law_count.kp C_law_count.b .nil passL (pa_cons (pe_callB (c_len K rfl) (by rfl) Z.z_len (by decide +kernel) (pa_cons (pv 3) pa_nil)) pa_nil)) (pv 3)) pa_nil)) (pa_cons (pv 4) pa_nil))))
    (pss_cons (ps_if (pt_cmpR (o_neD K rfl hu64) (pe_call C_protect.G (hr.mono (by decide)) rfl C_protect.m C_protect.kp C_protect.b .nil passL (pa_cons (pv 3) (pa_cons (pv 4) pa_nil))) (pe_call C_law_joined.G (hr.mono (by decide)) rfl C_law_joined.m C_law_joined.kp C_law_joined.b .nil passL (pa_cons (pv 5) pa_nil)) (nomark _))
      (pss_one (ps_ret pe_bl))
      pss_nil)
    (pss_one (ps_if (PW.pt (pw_or (pt_not (pt_val (pe_call C_law_opened_right.G (hr.mono (by decide)) rfl C_law_opened_right.m C_law_opened_right.kp C_law_opened_right.b .nil passL (pa_cons (pv 2) (pa_cons (pv 3) (pa_cons (pv 4) (pa_cons (pv 5) pa_nil))))))) (pw_or1 (pt_not (pt_val (pe_call C_law_lost_right.G (hr.mono (by decide)) rfl C_law_lost_right.m C_law_lost_right.kp C_law_lost_right.b .nil passL (pa_cons (pv 2) (pa_cons (pv 3) (pa_cons (pv 4) (pa_cons (pv 5) pa_nil))))))))))
      (pss_one (ps_ret pe_bl))
      pss_nil)))))))
    (pss_one (ps_ret pe_bl))), ?_⟩
  obtain ⟨sc, ns, rfl, hS, hl, q⟩ := h
  walk_at "r"
  refine ⟨_, rfl, by split <;> split <;> omega, by split <;> split <;> omega, ?_⟩
  refine forR (fun i σ H' => ∃ v1 v2 v3 v4 v5, σ = [some (.ref sc), v1, v2, v3, v4, v5] ∧ Same H H') ⟨_, _, _, _, _, rfl, Same.refl H⟩ ?_ ?_
  · rintro i σ H1 hi ⟨v1, v2, v3, v4, v5, rfl, e1⟩
    walk_at "r"
    refine ⟨rfl, sc, ns, _, rfl, e1.seq hS, by omega, ?_, fun p H2 s2 => ?_⟩
    · have : i < 3 := Nat.lt_of_lt_of_le hi (by split <;> split <;> omega)
      omega
    walk_at "r"
    refine ⟨rfl, H1, p, rfl, s2, fun b bs F3 H3 s3 t3 hb bB bl => ?_⟩
    walk_at "r"
    refine ⟨rfl, F3, p, _, rfl, s3, by decide, by decide, fun r1 H4 s4 t4 r10 r11 => ?_⟩
    replace t4 := t3.trans t4
    obtain ⟨g, eg⟩ : ∃ g : Nat, 1 + r1 = (g : Int) := ⟨(1 + r1).toNat, by omega⟩
    obtain ⟨lds, hcm, hc0, hc20, hcmod⟩ := cells_facts (g := g) (by omega) bB bl
    have hpl : (protC g bs).length = (cellsC g (loadsC bs)).length * 56 := flat_len _ fun c hc => by
      obtain ⟨l, rfl, l48, _⟩ := hcm c hc
      exact cellC_len l48
    have htl := toldC_length bs
    have hcs := countL_short bl
    have hgood := all_good.mpr bB
    walk_at "r"
    rw [eg]
    walk_at "r"
    refine s_len (SqL.of (s4.1 _ _ hb)) ?_
    walk_at "r"
    refine ⟨rfl, bs.length, by rw [List.length_map]; rfl, by omega, fun y1 H5 e5 y10 hy1 => ?_⟩
    obtain ⟨s5, t5⟩ := sameZ s4 t4 e5
    walk_at "r"
    refine ⟨_, _, _, _, rfl, rfl, hy1, s5.1 _ _ hb, sz (by rw [List.length_map, List.length_map]; omega), fun y2 hy2 => ?_⟩
    generalize eX : upd H5 y2 _ = H6
    obtain ⟨F6, s6, t6, ff6, e6, hy2, -⟩ := frz s5 t5 hy2 eX
    clear eX
    rw [← List.map_append, show countL bs.length ++ bs = toldC bs from rfl] at hy2
    walk_at "r"
    refine ⟨rfl, F6, y2, toldC bs, rfl, s6.1, hy2, by omega, fun y3 F7 H7 acc7 st7 hy3 rl7 => ?_⟩
    obtain ⟨s7, t7⟩ := stpZ s6 t6 st7
    walk_at "r"
    refine ⟨rfl, F7, y3, acc7, loadsC bs, g, rfl, s7.1, hy3, rl7, by rw [loads_length]; omega, lds, by omega, by omega, fun y4 F8 H8 acc8 st8 hy4 rl8 => ?_⟩
    obtain ⟨s8, t8⟩ := stpZ s7 t7 st8
    have hb8 := st8.ff _ _ (st7.ff _ _ (ff6 _ _ hb))
    walk_at "r"
    refine ⟨rfl, b, bs, (g : Int), rfl, s8.1 _ _ hb8, by omega, .inr (.inr ⟨hgood, by omega, by omega, fun y5 H9 e9 y50 hy5 => ?_⟩)⟩
    rw [Int.toNat_natCast] at hy5
    obtain ⟨s9, t9⟩ := sameZ s8 t8 e9
    walk_at "r"
    refine ⟨rfl, y4, acc8, _, rfl, SqL.of (s9.1 _ _ hy4), LV.mono s9.1 rl8, by omega, fun c hc => ?_, fun y6 H10 e10 y60 hy6 => ?_⟩
    · obtain ⟨l, rfl, l48, _⟩ := hcm c hc
      exact cellC_len l48
    obtain ⟨s10, t10⟩ := sameZ s9 t9 e10
    refine s_neL (SqL.of (e10 _ _ hy5)) (SqL.of hy6) ?_
    walk_at "r"
    refine ifn (fun _ => ?_) (fun z => absurd rfl z)
    walk_at "r"
    refine ⟨rfl, F8, p, b, y4, bs, g, acc8, rfl, s10, hb8, bB, bl, by omega, by omega, hy4, rl8, fun F11 H11 s11 t11 => ?_⟩
    walk_at "r"
    refine ⟨rfl, F11, p, b, y4, bs, g, acc8, rfl, s11, t11.ff _ _ hb8, bB, bl, by omega, by omega, t11.ff _ _ hy4, LV.mono t11.ff rl8, fun F12 H12 s12 t12 => ?_⟩
    walk_at "r"
    exact ⟨_, _, _, _, _, rfl, e1.trans ((((t10.trans t11).trans t12).ff).trans s12.1)⟩
  · rintro σ H1 ⟨v1, v2, v3, v4, v5, rfl, e1⟩
    walk_at "r"
    exact q _
end
theorem all_mk {l : PySem.W.OpenLaw} {w : World} {K : PySem.W.Frag} {h : Heap} {mg : Str → Option Value} {fa : Addr} (X : K.In h) (G : h.Ns mainGlobals mg) (hfa : mg "law" = some (.ref fa))
    {f0 : Addr} {od0 an0 : Option Addr} {sl0 : Array (Option Value)} {oc0 kV0 dc0 pm0 cd0 ct0 : Value}
    (a0 : PySem.W.nsIn K mainGlobals "is_bit" = some (some (.ref f0))) (l0 : K.lookup f0 = some ⟨oc0, od0, .func (PySem.W.fnOf "is_bit" "is_bit" (defArgs s_is_bit) (defBody s_is_bit) (defScope s_is_bit) .none kV0 dc0 pm0 an0 cd0 ct0), sl0⟩) (c0 : PySem.W.codeIn K cd0 "is_bit" = true) (k0 : PySem.W.keepIn K (.ref f0) = true)
    {f1 : Addr} {od1 an1 : Option Addr} {sl1 : Array (Option Value)} {oc1 kV1 dc1 pm1 cd1 ct1 : Value}
    (a1 : PySem.W.nsIn K mainGlobals "check_bits" = some (some (.ref f1))) (l1 : K.lookup f1 = some ⟨oc1, od1, .func (PySem.W.fnOf "check_bits" "check_bits" (defArgs s_check_bits) (defBody s_check_bits) (defScope s_check_bits) .none kV1 dc1 pm1 an1 cd1 ct1), sl1⟩) (c1 : PySem.W.codeIn K cd1 "check_bits" = true) (k1 : PySem.W.keepIn K (.ref f1) = true)
    {f2 : Addr} {od2 an2 : Option Addr} {sl2 : Array (Option Value)} {oc2 kV2 dc2 pm2 cd2 ct2 : Value}
    (a2 : PySem.W.nsIn K mainGlobals "number_of" = some (some (.ref f2))) (l2 : K.lookup f2 = some ⟨oc2, od2, .func (PySem.W.fnOf "number_of" "number_of" (defArgs s_number_of) (defBody s_number_of) (defScope s_number_of) .none kV2 dc2 pm2 an2 cd2 ct2), sl2⟩) (c2 : PySem.W.codeIn K cd2 "number_of" = true) (k2 : PySem.W.keepIn K (.ref f2) = true)
    {f3 : Addr} {od3 an3 : Option Addr} {sl3 : Array (Option Value)} {oc3 kV3 dc3 pm3 cd3 ct3 : Value}
    (a3 : PySem.W.nsIn K mainGlobals "fixed" = some (some (.ref f3))) (l3 : K.lookup f3 = some ⟨oc3, od3, .func (PySem.W.fnOf "fixed" "fixed" (defArgs s_fixed) (defBody s_fixed) (defScope s_fixed) .none kV3 dc3 pm3 an3 cd3 ct3), sl3⟩) (c3 : PySem.W.codeIn K cd3 "fixed" = true) (k3 : PySem.W.keepIn K (.ref f3) = true)
    {f4 : Addr} {od4 an4 : Option Addr} {sl4 : Array (Option Value)} {oc4 kV4 dc4 pm4 cd4 ct4 : Value}
    (a4 : PySem.W.nsIn K mainGlobals "count_bits" = some (some (.ref f4))) (l4 : K.lookup f4 = some ⟨oc4, od4, .func (PySem.W.fnOf "count_bits" "count_bits" (defArgs s_count_bits) (defBody s_count_bits) (defScope s_count_bits) .none kV4 dc4 pm4 an4 cd4 ct4), sl4⟩) (c4 : PySem.W.codeIn K cd4 "count_bits" = true) (k4 : PySem.W.keepIn K (.ref f4) = true)
    {f5 : Addr} {od5 an5 : Option Addr} {sl5 : Array (Option Value)} {oc5 kV5 dc5 pm5 cd5 ct5 : Value}
    (a5 : PySem.W.nsIn K mainGlobals "count_at" = some (some (.ref f5))) (l5 : K.lookup f5 = some ⟨oc5, od5, .func (PySem.W.fnOf "count_at" "count_at" (defArgs s_count_at) (defBody s_count_at) (defScope s_count_at) .none kV5 dc5 pm5 an5 cd5 ct5), sl5⟩) (c5 : PySem.W.codeIn K cd5 "count_at" = true) (k5 : PySem.W.keepIn K (.ref f5) = true)
    {f6 : Addr} {od6 an6 : Option Addr} {sl6 : Array (Option Value)} {oc6 kV6 dc6 pm6 cd6 ct6 : Value}
    (a6 : PySem.W.nsIn K mainGlobals "check_of" = some (some (.ref f6))) (l6 : K.lookup f6 = some ⟨oc6, od6, .func (PySem.W.fnOf "check_of" "check_of" (defArgs s_check_of) (defBody s_check_of) (defScope s_check_of) .none kV6 dc6 pm6 an6 cd6 ct6), sl6⟩) (c6 : PySem.W.codeIn K cd6 "check_of" = true) (k6 : PySem.W.keepIn K (.ref f6) = true)
    {f7 : Addr} {od7 an7 : Option Addr} {sl7 : Array (Option Value)} {oc7 kV7 dc7 pm7 cd7 ct7 : Value}
    (a7 : PySem.W.nsIn K mainGlobals "want_group" = some (some (.ref f7))) (l7 : K.lookup f7 = some ⟨oc7, od7, .func (PySem.W.fnOf "want_group" "want_group" (defArgs s_want_group) (defBody s_want_group) (defScope s_want_group) .none kV7 dc7 pm7 an7 cd7 ct7), sl7⟩) (c7 : PySem.W.codeIn K cd7 "want_group" = true) (k7 : PySem.W.keepIn K (.ref f7) = true)
    {f8 : Addr} {od8 an8 : Option Addr} {sl8 : Array (Option Value)} {oc8 kV8 dc8 pm8 cd8 ct8 : Value}
    (a8 : PySem.W.nsIn K mainGlobals "cut_up" = some (some (.ref f8))) (l8 : K.lookup f8 = some ⟨oc8, od8, .func (PySem.W.fnOf "cut_up" "cut_up" (defArgs s_cut_up) (defBody s_cut_up) (defScope s_cut_up) .none kV8 dc8 pm8 an8 cd8 ct8), sl8⟩) (c8 : PySem.W.codeIn K cd8 "cut_up" = true) (k8 : PySem.W.keepIn K (.ref f8) = true)
    {f9 : Addr} {od9 an9 : Option Addr} {sl9 : Array (Option Value)} {oc9 kV9 dc9 pm9 cd9 ct9 : Value}
    (a9 : PySem.W.nsIn K mainGlobals "sum_of" = some (some (.ref f9))) (l9 : K.lookup f9 = some ⟨oc9, od9, .func (PySem.W.fnOf "sum_of" "sum_of" (defArgs s_sum_of) (defBody s_sum_of) (defScope s_sum_of) .none kV9 dc9 pm9 an9 cd9 ct9), sl9⟩) (c9 : PySem.W.codeIn K cd9 "sum_of" = true) (k9 : PySem.W.keepIn K (.ref f9) = true)
    {f10 : Addr} {od10 an10 : Option Addr} {sl10 : Array (Option Value)} {oc10 kV10 dc10 pm10 cd10 ct10 : Value}
    (a10 : PySem.W.nsIn K mainGlobals "cell_of" = some (some (.ref f10))) (l10 : K.lookup f10 = some ⟨oc10, od10, .func (PySem.W.fnOf "cell_of" "cell_of" (defArgs s_cell_of) (defBody s_cell_of) (defScope s_cell_of) .none kV10 dc10 pm10 an10 cd10 ct10), sl10⟩) (c10 : PySem.W.codeIn K cd10 "cell_of" = true) (k10 : PySem.W.keepIn K (.ref f10) = true)
    {f11 : Addr} {od11 an11 : Option Addr} {sl11 : Array (Option Value)} {oc11 kV11 dc11 pm11 cd11 ct11 : Value}
    (a11 : PySem.W.nsIn K mainGlobals "protect" = some (some (.ref f11))) (l11 : K.lookup f11 = some ⟨oc11, od11, .func (PySem.W.fnOf "protect" "protect" (defArgs s_protect) (defBody s_protect) (defScope s_protect) .none kV11 dc11 pm11 an11 cd11 ct11), sl11⟩) (c11 : PySem.W.codeIn K cd11 "protect" = true) (k11 : PySem.W.keepIn K (.ref f11) = true)
    {f12 : Addr} {od12 an12 : Option Addr} {sl12 : Array (Option Value)} {oc12 kV12 dc12 pm12 cd12 ct12 : Value}
    (a12 : PySem.W.nsIn K mainGlobals "is_good" = some (some (.ref f12))) (l12 : K.lookup f12 = some ⟨oc12, od12, .func (PySem.W.fnOf "is_good" "is_good" (defArgs s_is_good) (defBody s_is_good) (defScope s_is_good) .none kV12 dc12 pm12 an12 cd12 ct12), sl12⟩) (c12 : PySem.W.codeIn K cd12 "is_good" = true) (k12 : PySem.W.keepIn K (.ref f12) = true)
    {f13 : Addr} {od13 an13 : Option Addr} {sl13 : Array (Option Value)} {oc13 kV13 dc13 pm13 cd13 ct13 : Value}
    (a13 : PySem.W.nsIn K mainGlobals "cells_of" = some (some (.ref f13))) (l13 : K.lookup f13 = some ⟨oc13, od13, .func (PySem.W.fnOf "cells_of" "cells_of" (defArgs s_cells_of) (defBody s_cells_of) (defScope s_cells_of) .none kV13 dc13 pm13 an13 cd13 ct13), sl13⟩) (c13 : PySem.W.codeIn K cd13 "cells_of" = true) (k13 : PySem.W.keepIn K (.ref f13) = true)
    {f14 : Addr} {od14 an14 : Option Addr} {sl14 : Array (Option Value)} {oc14 kV14 dc14 pm14 cd14 ct14 : Value}
    (a14 : PySem.W.nsIn K mainGlobals "good" = some (some (.ref f14))) (l14 : K.lookup f14 = some ⟨oc14, od14, .func (PySem.W.fnOf "good" "good" (defArgs s_good) (defBody s_good) (defScope s_good) .none kV14 dc14 pm14 an14 cd14 ct14), sl14⟩) (c14 : PySem.W.codeIn K cd14 "good" = true) (k14 : PySem.W.keepIn K (.ref f14) = true)
    {f15 : Addr} {od15 an15 : Option Addr} {sl15 : Array (Option Value)} {oc15 kV15 dc15 pm15 cd15 ct15 : Value}
    (a15 : PySem.W.nsIn K mainGlobals "opened_group" = some (some (.ref f15))) (l15 : K.lookup f15 = some ⟨oc15, od15, .func (PySem.W.fnOf "opened_group" "opened_group" (defArgs s_opened_group) (defBody s_opened_group) (defScope s_opened_group) .none kV15 dc15 pm15 an15 cd15 ct15), sl15⟩) (c15 : PySem.W.codeIn K cd15 "opened_group" = true) (k15 : PySem.W.keepIn K (.ref f15) = true)
    {f16 : Addr} {od16 an16 : Option Addr} {sl16 : Array (Option Value)} {oc16 kV16 dc16 pm16 cd16 ct16 : Value}
    (a16 : PySem.W.nsIn K mainGlobals "count_told" = some (some (.ref f16))) (l16 : K.lookup f16 = some ⟨oc16, od16, .func (PySem.W.fnOf "count_told" "count_told" (defArgs s_count_told) (defBody s_count_told) (defScope s_count_told) .none kV16 dc16 pm16 an16 cd16 ct16), sl16⟩) (c16 : PySem.W.codeIn K cd16 "count_told" = true) (k16 : PySem.W.keepIn K (.ref f16) = true)
    {f17 : Addr} {od17 an17 : Option Addr} {sl17 : Array (Option Value)} {oc17 kV17 dc17 pm17 cd17 ct17 : Value}
    (a17 : PySem.W.nsIn K mainGlobals "open_cells" = some (some (.ref f17))) (l17 : K.lookup f17 = some ⟨oc17, od17, .func (PySem.W.fnOf "open_cells" "open_cells" (defArgs s_open_cells) (defBody s_open_cells) (defScope s_open_cells) .none kV17 dc17 pm17 an17 cd17 ct17), sl17⟩) (c17 : PySem.W.codeIn K cd17 "open_cells" = true) (k17 : PySem.W.keepIn K (.ref f17) = true)
    {f18 : Addr} {od18 an18 : Option Addr} {sl18 : Array (Option Value)} {oc18 kV18 dc18 pm18 cd18 ct18 : Value}
    (a18 : PySem.W.nsIn K mainGlobals "_law_pool" = some (some (.ref f18))) (l18 : K.lookup f18 = some ⟨oc18, od18, .func (PySem.W.fnOf "_law_pool" "_law_pool" (defArgs s_law_pool) (defBody s_law_pool) (defScope s_law_pool) .none kV18 dc18 pm18 an18 cd18 ct18), sl18⟩) (c18 : PySem.W.codeIn K cd18 "_law_pool" = true) (k18 : PySem.W.keepIn K (.ref f18) = true)
    {f19 : Addr} {od19 an19 : Option Addr} {sl19 : Array (Option Value)} {oc19 kV19 dc19 pm19 cd19 ct19 : Value}
    (a19 : PySem.W.nsIn K mainGlobals "_law_take" = some (some (.ref f19))) (l19 : K.lookup f19 = some ⟨oc19, od19, .func (PySem.W.fnOf "_law_take" "_law_take" (defArgs s_law_take) (defBody s_law_take) (defScope s_law_take) .none kV19 dc19 pm19 an19 cd19 ct19), sl19⟩) (c19 : PySem.W.codeIn K cd19 "_law_take" = true) (k19 : PySem.W.keepIn K (.ref f19) = true)
    {f20 : Addr} {od20 an20 : Option Addr} {sl20 : Array (Option Value)} {oc20 kV20 dc20 pm20 cd20 ct20 : Value}
    (a20 : PySem.W.nsIn K mainGlobals "_law_one" = some (some (.ref f20))) (l20 : K.lookup f20 = some ⟨oc20, od20, .func (PySem.W.fnOf "_law_one" "_law_one" (defArgs s_law_one) (defBody s_law_one) (defScope s_law_one) .none kV20 dc20 pm20 an20 cd20 ct20), sl20⟩) (c20 : PySem.W.codeIn K cd20 "_law_one" = true) (k20 : PySem.W.keepIn K (.ref f20) = true)
    {f21 : Addr} {od21 an21 : Option Addr} {sl21 : Array (Option Value)} {oc21 kV21 dc21 pm21 cd21 ct21 : Value}
    (a21 : PySem.W.nsIn K mainGlobals "_law_count" = some (some (.ref f21))) (l21 : K.lookup f21 = some ⟨oc21, od21, .func (PySem.W.fnOf "_law_count" "_law_count" (defArgs s_law_count) (defBody s_law_count) (defScope s_law_count) .none kV21 dc21 pm21 an21 cd21 ct21), sl21⟩) (c21 : PySem.W.codeIn K cd21 "_law_count" = true) (k21 : PySem.W.keepIn K (.ref f21) = true)
    {f22 : Addr} {od22 an22 : Option Addr} {sl22 : Array (Option Value)} {oc22 kV22 dc22 pm22 cd22 ct22 : Value}
    (a22 : PySem.W.nsIn K mainGlobals "_law_check" = some (some (.ref f22))) (l22 : K.lookup f22 = some ⟨oc22, od22, .func (PySem.W.fnOf "_law_check" "_law_check" (defArgs s_law_check) (defBody s_law_check) (defScope s_law_check) .none kV22 dc22 pm22 an22 cd22 ct22), sl22⟩) (c22 : PySem.W.codeIn K cd22 "_law_check" = true) (k22 : PySem.W.keepIn K (.ref f22) = true)
    {f23 : Addr} {od23 an23 : Option Addr} {sl23 : Array (Option Value)} {oc23 kV23 dc23 pm23 cd23 ct23 : Value}
    (a23 : PySem.W.nsIn K mainGlobals "_law_sum" = some (some (.ref f23))) (l23 : K.lookup f23 = some ⟨oc23, od23, .func (PySem.W.fnOf "_law_sum" "_law_sum" (defArgs s_law_sum) (defBody s_law_sum) (defScope s_law_sum) .none kV23 dc23 pm23 an23 cd23 ct23), sl23⟩) (c23 : PySem.W.codeIn K cd23 "_law_sum" = true) (k23 : PySem.W.keepIn K (.ref f23) = true)
    {f24 : Addr} {od24 an24 : Option Addr} {sl24 : Array (Option Value)} {oc24 kV24 dc24 pm24 cd24 ct24 : Value}
    (a24 : PySem.W.nsIn K mainGlobals "_law_cells" = some (some (.ref f24))) (l24 : K.lookup f24 = some ⟨oc24, od24, .func (PySem.W.fnOf "_law_cells" "_law_cells" (defArgs s_law_cells) (defBody s_law_cells) (defScope s_law_cells) .none kV24 dc24 pm24 an24 cd24 ct24), sl24⟩) (c24 : PySem.W.codeIn K cd24 "_law_cells" = true) (k24 : PySem.W.keepIn K (.ref f24) = true)
    {f25 : Addr} {od25 an25 : Option Addr} {sl25 : Array (Option Value)} {oc25 kV25 dc25 pm25 cd25 ct25 : Value}
    (a25 : PySem.W.nsIn K mainGlobals "_law_loads" = some (some (.ref f25))) (l25 : K.lookup f25 = some ⟨oc25, od25, .func (PySem.W.fnOf "_law_loads" "_law_loads" (defArgs s_law_loads) (defBody s_law_loads) (defScope s_law_loads) .none kV25 dc25 pm25 an25 cd25 ct25), sl25⟩) (c25 : PySem.W.codeIn K cd25 "_law_loads" = true) (k25 : PySem.W.keepIn K (.ref f25) = true)
    {f26 : Addr} {od26 an26 : Option Addr} {sl26 : Array (Option Value)} {oc26 kV26 dc26 pm26 cd26 ct26 : Value}
    (a26 : PySem.W.nsIn K mainGlobals "_law_joined" = some (some (.ref f26))) (l26 : K.lookup f26 = some ⟨oc26, od26, .func (PySem.W.fnOf "_law_joined" "_law_joined" (defArgs s_law_joined) (defBody s_law_joined) (defScope s_law_joined) .none kV26 dc26 pm26 an26 cd26 ct26), sl26⟩) (c26 : PySem.W.codeIn K cd26 "_law_joined" = true) (k26 : PySem.W.keepIn K (.ref f26) = true)
    {f27 : Addr} {od27 an27 : Option Addr} {sl27 : Array (Option Value)} {oc27 kV27 dc27 pm27 cd27 ct27 : Value}
    (a27 : PySem.W.nsIn K mainGlobals "_law_bits" = some (some (.ref f27))) (l27 : K.lookup f27 = some ⟨oc27, od27, .func (PySem.W.fnOf "_law_bits" "_law_bits" (defArgs s_law_bits) (defBody s_law_bits) (defScope s_law_bits) .none kV27 dc27 pm27 an27 cd27 ct27), sl27⟩) (c27 : PySem.W.codeIn K cd27 "_law_bits" = true) (k27 : PySem.W.keepIn K (.ref f27) = true)
    {f28 : Addr} {od28 an28 : Option Addr} {sl28 : Array (Option Value)} {oc28 kV28 dc28 pm28 cd28 ct28 : Value}
    (a28 : PySem.W.nsIn K mainGlobals "_law_damaged" = some (some (.ref f28))) (l28 : K.lookup f28 = some ⟨oc28, od28, .func (PySem.W.fnOf "_law_damaged" "_law_damaged" (defArgs s_law_damaged) (defBody s_law_damaged) (defScope s_law_damaged) .none kV28 dc28 pm28 an28 cd28 ct28), sl28⟩) (c28 : PySem.W.codeIn K cd28 "_law_damaged" = true) (k28 : PySem.W.keepIn K (.ref f28) = true)
    {f29 : Addr} {od29 an29 : Option Addr} {sl29 : Array (Option Value)} {oc29 kV29 dc29 pm29 cd29 ct29 : Value}
    (a29 : PySem.W.nsIn K mainGlobals "_law_opened_right" = some (some (.ref f29))) (l29 : K.lookup f29 = some ⟨oc29, od29, .func (PySem.W.fnOf "_law_opened_right" "_law_opened_right" (defArgs s_law_opened_right) (defBody s_law_opened_right) (defScope s_law_opened_right) .none kV29 dc29 pm29 an29 cd29 ct29), sl29⟩) (c29 : PySem.W.codeIn K cd29 "_law_opened_right" = true) (k29 : PySem.W.keepIn K (.ref f29) = true)
    {f30 : Addr} {od30 an30 : Option Addr} {sl30 : Array (Option Value)} {oc30 kV30 dc30 pm30 cd30 ct30 : Value}
    (a30 : PySem.W.nsIn K mainGlobals "_law_lost_right" = some (some (.ref f30))) (l30 : K.lookup f30 = some ⟨oc30, od30, .func (PySem.W.fnOf "_law_lost_right" "_law_lost_right" (defArgs s_law_lost_right) (defBody s_law_lost_right) (defScope s_law_lost_right) .none kV30 dc30 pm30 an30 cd30 ct30), sl30⟩) (c30 : PySem.W.codeIn K cd30 "_law_lost_right" = true) (k30 : PySem.W.keepIn K (.ref f30) = true)
    {f31 : Addr} {od31 an31 : Option Addr} {sl31 : Array (Option Value)} {oc31 kV31 dc31 pm31 cd31 ct31 : Value}
    (a31 : PySem.W.nsIn K mainGlobals "law" = some (some (.ref f31))) (l31 : K.lookup f31 = some ⟨oc31, od31, .func (PySem.W.fnOf "law" "law" (defArgs s_law) (defBody s_law) (defScope s_law) .none kV31 dc31 pm31 an31 cd31 ct31), sl31⟩) (c31 : PySem.W.codeIn K cd31 "law" = true) (k31 : PySem.W.keepIn K (.ref f31) = true)
    (z_bool : PySem.W.nsIn K mainGlobals "bool" = some none)
    (z_divmod : PySem.W.nsIn K mainGlobals "divmod" = some none)
    (z_enumerate : PySem.W.nsIn K mainGlobals "enumerate" = some none)
    (z_int : PySem.W.nsIn K mainGlobals "int" = some none)
    (z_isinstance : PySem.W.nsIn K mainGlobals "isinstance" = some none)
    (z_len : PySem.W.nsIn K mainGlobals "len" = some none)
    (z_list : PySem.W.nsIn K mainGlobals "list" = some none)
    (z_max : PySem.W.nsIn K mainGlobals "max" = some none)
    (z_min : PySem.W.nsIn K mainGlobals "min" = some none)
    (z_range : PySem.W.nsIn K mainGlobals "range" = some none)
    (z_sum : PySem.W.nsIn K mainGlobals "sum" = some none)
    (z_zip : PySem.W.nsIn K mainGlobals "zip" = some none)
    {t_CELL_SIZE : Tok} (e_CELL_SIZE : PySem.W.nsIn K mainGlobals "CELL_SIZE" = some (some (.int (56) t_CELL_SIZE)))
    {t_CHECK_SIZE : Tok} (e_CHECK_SIZE : PySem.W.nsIn K mainGlobals "CHECK_SIZE" = some (some (.int (8) t_CHECK_SIZE)))
    {t_HIGHEST : Tok} (e_HIGHEST : PySem.W.nsIn K mainGlobals "HIGHEST" = some (some (.int (128) t_HIGHEST)))
    {t_LOAD_SIZE : Tok} (e_LOAD_SIZE : PySem.W.nsIn K mainGlobals "LOAD_SIZE" = some (some (.int (48) t_LOAD_SIZE)))
    {t_MOST_BITS : Tok} (e_MOST_BITS : PySem.W.nsIn K mainGlobals "MOST_BITS" = some (some (.int (1000000) t_MOST_BITS)))
    {t_MOST_COUNT : Tok} (e_MOST_COUNT : PySem.W.nsIn K mainGlobals "MOST_COUNT" = some (some (.int (2199023255550) t_MOST_COUNT)))
    {t_MOST_GROUP : Tok} (e_MOST_GROUP : PySem.W.nsIn K mainGlobals "MOST_GROUP" = some (some (.int (8) t_MOST_GROUP)))
    {t_MOST_ZEROS : Tok} (e_MOST_ZEROS : PySem.W.nsIn K mainGlobals "MOST_ZEROS" = some (some (.int (40) t_MOST_ZEROS)))
    {t_STATES : Tok} (e_STATES : PySem.W.nsIn K mainGlobals "STATES" = some (some (.int (256) t_STATES)))
    {t_TURN : Tok} (e_TURN : PySem.W.nsIn K mainGlobals "TURN" = some (some (.int (7) t_TURN)))
    {C_BadBits : Addr} (g_BadBits : PySem.W.nsIn K mainGlobals "BadBits" = some (some (.ref C_BadBits))) (x0_BadBits : PySem.W.excIn K C_BadBits [.type "ValueError", .type "Exception", .type "BaseException", .type "object"] "ValueError.__new__" = true)
    (x1_BadBits : PySem.W.keepIn K (.ref C_BadBits) = true) (x2_BadBits : PySem.W.subIn K (.ref C_BadBits) (.type "BaseException") = some true) (x3_BadBits : PySem.W.typeIn K (.ref C_BadBits) = some (.type "type"))
    (x4_BadBits : PySem.W.findIn K (.ref C_BadBits) "__getattribute__" = some (some (.builtin "BaseException.__getattribute__"))) (x5_BadBits : PySem.W.findIn K (.ref C_BadBits) "__getattr__" = some none) (x6_BadBits : PySem.W.hasDictIn K C_BadBits = true)
    (x7_BadBits : PySem.W.findIn K (.ref C_BadBits) "__class__" = some (some (.builtin "object.__class__"))) (x8_BadBits : PySem.W.specialIn K (.builtin "object.__class__") "__get__" = some (some (.builtin "getset_descriptor.__get__"))) (x9_BadBits : PySem.W.takesIn K (.builtin "object.__class__") = some true) (xa_BadBits : PySem.W.mroIn K C_BadBits (.type "object") = some true)
    {C_BadCells : Addr} (g_BadCells : PySem.W.nsIn K mainGlobals "BadCells" = some (some (.ref C_BadCells))) (x0_BadCells : PySem.W.excIn K C_BadCells [.type "ValueError", .type "Exception", .type "BaseException", .type "object"] "ValueError.__new__" = true)
    (x1_BadCells : PySem.W.keepIn K (.ref C_BadCells) = true) (x2_BadCells : PySem.W.subIn K (.ref C_BadCells) (.type "BaseException") = some true) (x3_BadCells : PySem.W.typeIn K (.ref C_BadCells) = some (.type "type"))
    (x4_BadCells : PySem.W.findIn K (.ref C_BadCells) "__getattribute__" = some (some (.builtin "BaseException.__getattribute__"))) (x5_BadCells : PySem.W.findIn K (.ref C_BadCells) "__getattr__" = some none) (x6_BadCells : PySem.W.hasDictIn K C_BadCells = true)
    (x7_BadCells : PySem.W.findIn K (.ref C_BadCells) "__class__" = some (some (.builtin "object.__class__"))) (x8_BadCells : PySem.W.specialIn K (.builtin "object.__class__") "__get__" = some (some (.builtin "getset_descriptor.__get__"))) (x9_BadCells : PySem.W.takesIn K (.builtin "object.__class__") = some true) (xa_BadCells : PySem.W.mroIn K C_BadCells (.type "object") = some true)
    {C_Great : Addr} (g_Great : PySem.W.nsIn K mainGlobals "Great" = some (some (.ref C_Great))) (x0_Great : PySem.W.excIn K C_Great [.type "ValueError", .type "Exception", .type "BaseException", .type "object"] "ValueError.__new__" = true)
    (x1_Great : PySem.W.keepIn K (.ref C_Great) = true) (x2_Great : PySem.W.subIn K (.ref C_Great) (.type "BaseException") = some true) (x3_Great : PySem.W.typeIn K (.ref C_Great) = some (.type "type"))
    (x4_Great : PySem.W.findIn K (.ref C_Great) "__getattribute__" = some (some (.builtin "BaseException.__getattribute__"))) (x5_Great : PySem.W.findIn K (.ref C_Great) "__getattr__" = some none) (x6_Great : PySem.W.hasDictIn K C_Great = true)
    (x7_Great : PySem.W.findIn K (.ref C_Great) "__class__" = some (some (.builtin "object.__class__"))) (x8_Great : PySem.W.specialIn K (.builtin "object.__class__") "__get__" = some (some (.builtin "getset_descriptor.__get__"))) (x9_Great : PySem.W.takesIn K (.builtin "object.__class__") = some true) (xa_Great : PySem.W.mroIn K C_Great (.type "object") = some true)
    {C_Outside : Addr} (g_Outside : PySem.W.nsIn K mainGlobals "Outside" = some (some (.ref C_Outside))) (x0_Outside : PySem.W.excIn K C_Outside [.type "ValueError", .type "Exception", .type "BaseException", .type "object"] "ValueError.__new__" = true)
    (x1_Outside : PySem.W.keepIn K (.ref C_Outside) = true) (x2_Outside : PySem.W.subIn K (.ref C_Outside) (.type "BaseException") = some true) (x3_Outside : PySem.W.typeIn K (.ref C_Outside) = some (.type "type"))
    (x4_Outside : PySem.W.findIn K (.ref C_Outside) "__getattribute__" = some (some (.builtin "BaseException.__getattribute__"))) (x5_Outside : PySem.W.findIn K (.ref C_Outside) "__getattr__" = some none) (x6_Outside : PySem.W.hasDictIn K C_Outside = true)
    (x7_Outside : PySem.W.findIn K (.ref C_Outside) "__class__" = some (some (.builtin "object.__class__"))) (x8_Outside : PySem.W.specialIn K (.builtin "object.__class__") "__get__" = some (some (.builtin "getset_descriptor.__get__"))) (x9_Outside : PySem.W.takesIn K (.builtin "object.__class__") = some true) (xa_Outside : PySem.W.mroIn K C_Outside (.type "object") = some true)
    (s_BadBits_BadBits : PySem.W.subIn K (.ref C_BadBits) (.ref C_BadBits) = some true)
    (s_BadBits_BadCells : PySem.W.subIn K (.ref C_BadBits) (.ref C_BadCells) = some false)
    (s_BadBits_Great : PySem.W.subIn K (.ref C_BadBits) (.ref C_Great) = some false)
    (s_BadBits_Outside : PySem.W.subIn K (.ref C_BadBits) (.ref C_Outside) = some false)
    (s_BadCells_BadBits : PySem.W.subIn K (.ref C_BadCells) (.ref C_BadBits) = some false)
    (s_BadCells_BadCells : PySem.W.subIn K (.ref C_BadCells) (.ref C_BadCells) = some true)
    (s_BadCells_Great : PySem.W.subIn K (.ref C_BadCells) (.ref C_Great) = some false)
    (s_BadCells_Outside : PySem.W.subIn K (.ref C_BadCells) (.ref C_Outside) = some false)
    (s_Great_BadBits : PySem.W.subIn K (.ref C_Great) (.ref C_BadBits) = some false)
    (s_Great_BadCells : PySem.W.subIn K (.ref C_Great) (.ref C_BadCells) = some false)
    (s_Great_Great : PySem.W.subIn K (.ref C_Great) (.ref C_Great) = some true)
    (s_Great_Outside : PySem.W.subIn K (.ref C_Great) (.ref C_Outside) = some false)
    (s_Outside_BadBits : PySem.W.subIn K (.ref C_Outside) (.ref C_BadBits) = some false)
    (s_Outside_BadCells : PySem.W.subIn K (.ref C_Outside) (.ref C_BadCells) = some false)
    (s_Outside_Great : PySem.W.subIn K (.ref C_Outside) (.ref C_Great) = some false)
    (s_Outside_Outside : PySem.W.subIn K (.ref C_Outside) (.ref C_Outside) = some true)
    : ∃ fd : FuncData, (∀ (s : Shared) (v : Value), BindsTo s fd ⟨[v], []⟩ [("_law_script", v)]) ∧ ∀ base : Heap, K.In base → base.Ns mainGlobals mg → FnOk l.prog w K mg base (L2.CX l.prog w) 7 fa fd ["_law_script"] (sp_law K mg) := by
  have e := hfa.symm.trans (PySem.W.mg_of X G a31)
  cases e
  have e_BadBits := exA_of (PySem.W.mg_of X G g_BadBits)
  have e_BadCells := exA_of (PySem.W.mg_of X G g_BadCells)
  have e_Great := exA_of (PySem.W.mg_of X G g_Great)
  have e_Outside := exA_of (PySem.W.mg_of X G g_Outside)
  have Z : Zs K mg := ⟨PySem.W.mg_none_of X G z_bool, PySem.W.mg_none_of X G z_divmod, PySem.W.mg_none_of X G z_enumerate, PySem.W.mg_none_of X G z_int, PySem.W.mg_none_of X G z_isinstance, PySem.W.mg_none_of X G z_len, PySem.W.mg_none_of X G z_list, PySem.W.mg_none_of X G z_max, PySem.W.mg_none_of X G z_min, PySem.W.mg_none_of X G z_range, PySem.W.mg_none_of X G z_sum, PySem.W.mg_none_of X G z_zip, ⟨_, PySem.W.mg_of X G e_CELL_SIZE⟩, ⟨_, PySem.W.mg_of X G e_CHECK_SIZE⟩, ⟨_, PySem.W.mg_of X G e_HIGHEST⟩, ⟨_, PySem.W.mg_of X G e_LOAD_SIZE⟩, ⟨_, PySem.W.mg_of X G e_MOST_BITS⟩, ⟨_, PySem.W.mg_of X G e_MOST_COUNT⟩, ⟨_, PySem.W.mg_of X G e_MOST_GROUP⟩, ⟨_, PySem.W.mg_of X G e_MOST_ZEROS⟩, ⟨_, PySem.W.mg_of X G e_STATES⟩, ⟨_, PySem.W.mg_of X G e_TURN⟩, ExF.mk' (PySem.W.mg_of X G g_BadBits) x0_BadBits x1_BadBits x2_BadBits x3_BadBits x4_BadBits x5_BadBits x6_BadBits x7_BadBits x8_BadBits x9_BadBits xa_BadBits, ExF.mk' (PySem.W.mg_of X G g_BadCells) x0_BadCells x1_BadCells x2_BadCells x3_BadCells x4_BadCells x5_BadCells x6_BadCells x7_BadCells x8_BadCells x9_BadCells xa_BadCells, ExF.mk' (PySem.W.mg_of X G g_Great) x0_Great x1_Great x2_Great x3_Great x4_Great x5_Great x6_Great x7_Great x8_Great x9_Great xa_Great, ExF.mk' (PySem.W.mg_of X G g_Outside) x0_Outside x1_Outside x2_Outside x3_Outside x4_Outside x5_Outside x6_Outside x7_Outside x8_Outside x9_Outside xa_Outside, (by rw [e_BadBits]; exact s_BadBits_BadBits), (by rw [e_BadBits]; exact kit_own x6_BadBits x3_BadBits s_BadBits_BadBits s_BadBits_BadBits), (by rw [e_BadBits, e_BadCells]; exact s_BadBits_BadCells), (by rw [e_BadBits, e_BadCells]; exact kit_own x6_BadCells x3_BadCells s_BadBits_BadCells s_BadBits_BadBits), (by rw [e_BadBits, e_Great]; exact s_BadBits_Great), (by rw [e_BadBits, e_Great]; exact kit_own x6_Great x3_Great s_BadBits_Great s_BadBits_BadBits), (by rw [e_BadBits, e_Outside]; exact s_BadBits_Outside), (by rw [e_BadBits, e_Outside]; exact kit_own x6_Outside x3_Outside s_BadBits_Outside s_BadBits_BadBits), (by rw [e_BadCells, e_BadBits]; exact s_BadCells_BadBits), (by rw [e_BadCells, e_BadBits]; exact kit_own x6_BadBits x3_BadBits s_BadCells_BadBits s_BadCells_BadCells), (by rw [e_BadCells]; exact s_BadCells_BadCells), (by rw [e_BadCells]; exact kit_own x6_BadCells x3_BadCells s_BadCells_BadCells s_BadCells_BadCells), (by rw [e_BadCells, e_Great]; exact s_BadCells_Great), (by rw [e_BadCells, e_Great]; exact kit_own x6_Great x3_Great s_BadCells_Great s_BadCells_BadCells), (by rw [e_BadCells, e_Outside]; exact s_BadCells_Outside), (by rw [e_BadCells, e_Outside]; exact kit_own x6_Outside x3_Outside s_BadCells_Outside s_BadCells_BadCells), (by rw [e_Great, e_BadBits]; exact s_Great_BadBits), (by rw [e_Great, e_BadBits]; exact kit_own x6_BadBits x3_BadBits s_Great_BadBits s_Great_Great), (by rw [e_Great, e_BadCells]; exact s_Great_BadCells), (by rw [e_Great, e_BadCells]; exact kit_own x6_BadCells x3_BadCells s_Great_BadCells s_Great_Great), (by rw [e_Great]; exact s_Great_Great), (by rw [e_Great]; exact kit_own x6_Great x3_Great s_Great_Great s_Great_Great), (by rw [e_Great, e_Outside]; exact s_Great_Outside), (by rw [e_Great, e_Outside]; exact kit_own x6_Outside x3_Outside s_Great_Outside s_Great_Great), (by rw [e_Outside, e_BadBits]; exact s_Outside_BadBits), (by rw [e_Outside, e_BadBits]; exact kit_own x6_BadBits x3_BadBits s_Outside_BadBits s_Outside_Outside), (by rw [e_Outside, e_BadCells]; exact s_Outside_BadCells), (by rw [e_Outside, e_BadCells]; exact kit_own x6_BadCells x3_BadCells s_Outside_BadCells s_Outside_Outside), (by rw [e_Outside, e_Great]; exact s_Outside_Great), (by rw [e_Outside, e_Great]; exact kit_own x6_Great x3_Great s_Outside_Great s_Outside_Outside), (by rw [e_Outside]; exact s_Outside_Outside), (by rw [e_Outside]; exact kit_own x6_Outside x3_Outside s_Outside_Outside s_Outside_Outside)⟩
  have F0 := fun_mk (st := s_is_bit) l0 c0 k0
  have F1 := fun_mk (st := s_check_bits) l1 c1 k1
  have F2 := fun_mk (st := s_number_of) l2 c2 k2
  have F3 := fun_mk (st := s_fixed) l3 c3 k3
  have F4 := fun_mk (st := s_count_bits) l4 c4 k4
  have F5 := fun_mk (st := s_count_at) l5 c5 k5
  have F6 := fun_mk (st := s_check_of) l6 c6 k6
  have F7 := fun_mk (st := s_want_group) l7 c7 k7
  have F8 := fun_mk (st := s_cut_up) l8 c8 k8
  have F9 := fun_mk (st := s_sum_of) l9 c9 k9
  have F10 := fun_mk (st := s_cell_of) l10 c10 k10
  have F11 := fun_mk (st := s_protect) l11 c11 k11
  have F12 := fun_mk (st := s_is_good) l12 c12 k12
  have F13 := fun_mk (st := s_cells_of) l13 c13 k13
  have F14 := fun_mk (st := s_good) l14 c14 k14
  have F15 := fun_mk (st := s_opened_group) l15 c15 k15
  have F16 := fun_mk (st := s_count_told) l16 c16 k16
  have F17 := fun_mk (st := s_open_cells) l17 c17 k17
  have F18 := fun_mk (st := s_law_pool) l18 c18 k18
  have F19 := fun_mk (st := s_law_take) l19 c19 k19
  have F20 := fun_mk (st := s_law_one) l20 c20 k20
  have F21 := fun_mk (st := s_law_count) l21 c21 k21
  have F22 := fun_mk (st := s_law_check) l22 c22 k22
  have F23 := fun_mk (st := s_law_sum) l23 c23 k23
  have F24 := fun_mk (st := s_law_cells) l24 c24 k24
  have F25 := fun_mk (st := s_law_loads) l25 c25 k25
  have F26 := fun_mk (st := s_law_joined) l26 c26 k26
  have F27 := fun_mk (st := s_law_bits) l27 c27 k27
  have F28 := fun_mk (st := s_law_damaged) l28 c28 k28
  have F29 := fun_mk (st := s_law_opened_right) l29 c29 k29
  have F30 := fun_mk (st := s_law_lost_right) l30 c30 k30
  have F31 := fun_mk (st := s_law) l31 c31 k31
  refine ⟨PySem.W.fnOf "law" "law" (defArgs s_law) (defBody s_law) (defScope s_law) .none kV31 dc31 pm31 an31 cd31 ct31, fun s v => .of_eq rfl, fun base _ _ => ?_⟩
  have R_law_count : Ok_law_count l.prog w K mg base := ⟨_, _, okx_law_count Z F21 (PySem.W.mg_of X G a21) ⟩
  have R_number_of : Ok_number_of l.prog w K mg base := ⟨_, _, okx_number_of Z F2 (PySem.W.mg_of X G a2) ⟩
  have R_count_at : Ok_count_at l.prog w K mg base := ⟨_, _, okx_count_at Z F5 (PySem.W.mg_of X G a5) R_number_of⟩
  have R_count_told : Ok_count_told l.prog w K mg base := ⟨_, _, okx_count_told Z F16 (PySem.W.mg_of X G a16) R_count_at⟩
  have R_cut_up : Ok_cut_up l.prog w K mg base := ⟨_, _, okx_cut_up Z F8 (PySem.W.mg_of X G a8) ⟩
  have R_want_group : Ok_want_group l.prog w K mg base := ⟨_, _, okx_want_group Z F7 (PySem.W.mg_of X G a7) ⟩
  have R_is_bit : Ok_is_bit l.prog w K mg base := ⟨_, _, okx_is_bit Z F0 (PySem.W.mg_of X G a0) ⟩
  have R_check_bits : Ok_check_bits l.prog w K mg base := ⟨_, _, okx_check_bits Z F1 (PySem.W.mg_of X G a1) R_is_bit⟩
  have R_cells_of : Ok_cells_of l.prog w K mg base := ⟨_, _, okx_cells_of Z F13 (PySem.W.mg_of X G a13) R_cut_up R_want_group R_check_bits⟩
  have R_sum_of : Ok_sum_of l.prog w K mg base := ⟨_, _, okx_sum_of Z F9 (PySem.W.mg_of X G a9) ⟩
  have R_fixed : Ok_fixed l.prog w K mg base := ⟨_, _, okx_fixed Z F3 (PySem.W.mg_of X G a3) ⟩
  have R_check_of : Ok_check_of l.prog w K mg base := ⟨_, _, okx_check_of Z F6 (PySem.W.mg_of X G a6) R_fixed⟩
  have R_is_good : Ok_is_good l.prog w K mg base := ⟨_, _, okx_is_good Z F12 (PySem.W.mg_of X G a12) R_check_of⟩
  have R_opened_group : Ok_opened_group l.prog w K mg base := ⟨_, _, okx_opened_group Z F15 (PySem.W.mg_of X G a15) R_sum_of R_is_good⟩
  have R_open_cells : Ok_open_cells l.prog w K mg base := ⟨_, _, okx_open_cells Z F17 (PySem.W.mg_of X G a17) R_count_told R_cut_up R_cells_of R_opened_group⟩
  have R_law_joined : Ok_law_joined l.prog w K mg base := ⟨_, _, okx_law_joined Z F26 (PySem.W.mg_of X G a26) ⟩
  have R_law_take : Ok_law_take l.prog w K mg base := ⟨_, _, okx_law_take Z F19 (PySem.W.mg_of X G a19) ⟩
  have R_law_damaged : Ok_law_damaged l.prog w K mg base := ⟨_, _, okx_law_damaged Z F28 (PySem.W.mg_of X G a28) R_law_take⟩
  have R_law_one : Ok_law_one l.prog w K mg base := ⟨_, _, okx_law_one Z F20 (PySem.W.mg_of X G a20) R_law_take⟩
  have R_law_lost_right : Ok_law_lost_right l.prog w K mg base := ⟨_, _, okx_law_lost_right Z F30 (PySem.W.mg_of X G a30) R_law_count R_open_cells R_law_joined R_law_damaged R_law_take R_law_one⟩
  have R_good : Ok_good l.prog w K mg base := ⟨_, _, okx_good Z F14 (PySem.W.mg_of X G a14) R_cells_of R_is_good⟩
  have R_law_opened_right : Ok_law_opened_right l.prog w K mg base := ⟨_, _, okx_law_opened_right Z F29 (PySem.W.mg_of X G a29) R_open_cells R_law_joined R_good R_law_damaged R_law_take⟩
  have R_cell_of : Ok_cell_of l.prog w K mg base := ⟨_, _, okx_cell_of Z F10 (PySem.W.mg_of X G a10) R_check_of⟩
  have R_count_bits : Ok_count_bits l.prog w K mg base := ⟨_, _, okx_count_bits Z F4 (PySem.W.mg_of X G a4) R_fixed⟩
  have R_protect : Ok_protect l.prog w K mg base := ⟨_, _, okx_protect Z F11 (PySem.W.mg_of X G a11) R_cut_up R_sum_of R_cell_of R_count_bits R_want_group R_check_bits⟩
  have R_law_sum : Ok_law_sum l.prog w K mg base := ⟨_, _, okx_law_sum Z F23 (PySem.W.mg_of X G a23) ⟩
  have R_law_check : Ok_law_check l.prog w K mg base := ⟨_, _, okx_law_check Z F22 (PySem.W.mg_of X G a22) ⟩
  have R_law_cells : Ok_law_cells l.prog w K mg base := ⟨_, _, okx_law_cells Z F24 (PySem.W.mg_of X G a24) R_law_sum R_law_check⟩
  have R_law_loads : Ok_law_loads l.prog w K mg base := ⟨_, _, okx_law_loads Z F25 (PySem.W.mg_of X G a25) ⟩
  have R_law_bits : Ok_law_bits l.prog w K mg base := ⟨_, _, okx_law_bits Z F27 (PySem.W.mg_of X G a27) R_law_take R_law_count⟩
  have R_law_pool : Ok_law_pool l.prog w K mg base := ⟨_, _, okx_law_pool Z F18 (PySem.W.mg_of X G a18) ⟩
  exact (okx_law (P := l.prog) (w := w) (base := base) Z F31 (PySem.W.mg_of X G a31) R_law_lost_right R_law_opened_right R_protect R_law_joined R_law_cells R_law_loads R_law_count R_law_take R_law_bits R_law_pool).G
theorem walk {l : PySem.W.OpenLaw} {q : Program} {loose : List Str} {XP : (Str → Option Value) → Heap → Prop} {YP : World → Heap → Prop} {d : DefRec} {K : Params → PySem.W.Frag} (hn : l.most = some 63) (hdf : d.params.defaults = [])
    (hY : ∀ (w : World) (h : Heap), YP w h → (K w.params).In h)
    (F : ∀ (w : World) (mg : Str → Option Value) (fa : Addr) (h : Heap), (K w.params).In h → h.Ns mainGlobals mg → mg d.name = some (.ref fa) →
      ∃ fd : FuncData, (∀ (s : Shared) (u : Value), BindsTo s fd ⟨[u], []⟩ [("_law_script", u)]) ∧ ∀ base : Heap, (K w.params).In base → base.Ns mainGlobals mg → FnOk l.prog w (K w.params) mg base (L2.CX l.prog w) 7 fa fd ["_law_script"] (sp_law (K w.params) mg)) :
    PySem.W.WalkO q loose XP YP l.row.toRowW d [] (fun f vs => PySem.call f vs) :=
  L2.walk_of (n := 63) (k := 7) (x := "_law_script") (CX := fun w => L2.CX l.prog w) (sp := fun w => sp_lawK (K w.params)) hn (by decide) hdf ⟨rfl, by decide, by decide⟩ hY F (fun _ _ _ ns hl _ hS => law_start hl hS) fun _ _ _ _ _ z => cx_none z
end NB
open PySem PySem.W PyProof.Rows in
set_option maxRecDepth 100000 in
set_option maxHeartbeats 0 in
theorem PySem.Challenge.cw_narrowingbits_k61_one_bad_cell_a_group_holds : PySem.Challenge.rw_narrowingbits_k61_one_bad_cell_a_group.Holds := by
  w_on; o_law; k_head; (case hw => w_witness2)
  k_fill
  refine NB.walk (l := PySem.Challenge.rw_narrowingbits_k61_one_bad_cell_a_group) rfl rfl (fun w h Y => PySem.W.kIn_of Y) ?F
  case F =>
    intro w mg fa h KX G hmg
    refine' NB.all_mk KX G hmg ?a0 ?l0 ?c0 ?k0 ?a1 ?l1 ?c1 ?k1 ?a2 ?l2 ?c2 ?k2 ?a3 ?l3 ?c3 ?k3 ?a4 ?l4 ?c4 ?k4 ?a5 ?l5 ?c5 ?k5 ?a6 ?l6 ?c6 ?k6 ?a7 ?l7 ?c7 ?k7 ?a8 ?l8 ?c8 ?k8 ?a9 ?l9 ?c9 ?k9 ?a10 ?l10 ?c10 ?k10 ?a11 ?l11 ?c11 ?k11 ?a12 ?l12 ?c12 ?k12 ?a13 ?l13 ?c13 ?k13 ?a14 ?l14 ?c14 ?k14 ?a15 ?l15 ?c15 ?k15 ?a16 ?l16 ?c16 ?k16 ?a17 ?l17 ?c17 ?k17 ?a18 ?l18 ?c18 ?k18 ?a19 ?l19 ?c19 ?k19 ?a20 ?l20 ?c20 ?k20 ?a21 ?l21 ?c21 ?k21 ?a22 ?l22 ?c22 ?k22 ?a23 ?l23 ?c23 ?k23 ?a24 ?l24 ?c24 ?k24 ?a25 ?l25 ?c25 ?k25 ?a26 ?l26 ?c26 ?k26 ?a27 ?l27 ?c27 ?k27 ?a28 ?l28 ?c28 ?k28 ?a29 ?l29 ?c29 ?k29 ?a30 ?l30 ?c30 ?k30 ?a31 ?l31 ?c31 ?k31 ?z_bool ?z_divmod ?z_enumerate ?z_int ?z_isinstance ?z_len ?z_list ?z_max ?z_min ?z_range ?z_sum ?z_zip ?e_CELL_SIZE ?e_CHECK_SIZE ?e_HIGHEST ?e_LOAD_SIZE ?e_MOST_BITS ?e_MOST_COUNT ?e_MOST_GROUP ?e_MOST_ZEROS ?e_STATES ?e_TURN ?g_BadBits ?x0_BadBits ?x1_BadBits ?x2_BadBits ?x3_BadBits ?x4_BadBits ?x5_BadBits ?x6_BadBits ?x7_BadBits ?x8_BadBits ?x9_BadBits ?xa_BadBits ?g_BadCells ?x0_BadCells ?x1_BadCells ?x2_BadCells ?x3_BadCells ?x4_BadCells ?x5_BadCells ?x6_BadCells ?x7_BadCells ?x8_BadCells ?x9_BadCells ?xa_BadCells ?g_Great ?x0_Great ?x1_Great ?x2_Great ?x3_Great ?x4_Great ?x5_Great ?x6_Great ?x7_Great ?x8_Great ?x9_Great ?xa_Great ?g_Outside ?x0_Outside ?x1_Outside ?x2_Outside ?x3_Outside ?x4_Outside ?x5_Outside ?x6_Outside ?x7_Outside ?x8_Outside ?x9_Outside ?xa_Outside ?s_BadBits_BadBits ?s_BadBits_BadCells ?s_BadBits_Great ?s_BadBits_Outside ?s_BadCells_BadBits ?s_BadCells_BadCells ?s_BadCells_Great ?s_BadCells_Outside ?s_Great_BadBits ?s_Great_BadCells ?s_Great_Great ?s_Great_Outside ?s_Outside_BadBits ?s_Outside_BadCells ?s_Outside_Great ?s_Outside_Outside
    (case a0 => k_is)
    (case l0 => k_is)
    (case c0 => k_is)
    (case k0 => k_is)
    (case a1 => k_is)
    (case l1 => k_is)
    (case c1 => k_is)
    (case k1 => k_is)
    (case a2 => k_is)
    (case l2 => k_is)
    (case c2 => k_is)
    (case k2 => k_is)
    (case a3 => k_is)
    (case l3 => k_is)
    (case c3 => k_is)
    (case k3 => k_is)
    (case a4 => k_is)
    (case l4 => k_is)
    (case c4 => k_is)
    (case k4 => k_is)
    (case a5 => k_is)
    (case l5 => k_is)
    (case c5 => k_is)
    (case k5 => k_is)
    (case a6 => k_is)
    (case l6 => k_is)
    (case c6 => k_is)
    (case k6 => k_is)
    (case a7 => k_is)
    (case l7 => k_is)
    (case c7 => k_is)
    (case k7 => k_is)
    (case a8 => k_is)
    (case l8 => k_is)
    (case c8 => k_is)
    (case k8 => k_is)
    (case a9 => k_is)
    (case l9 => k_is)
    (case c9 => k_is)
    (case k9 => k_is)
    (case a10 => k_is)
    (case l10 => k_is)
    (case c10 => k_is)
    (case k10 => k_is)
    (case a11 => k_is)
    (case l11 => k_is)
    (case c11 => k_is)
    (case k11 => k_is)
    (case a12 => k_is)
    (case l12 => k_is)
    (case c12 => k_is)
    (case k12 => k_is)
    (case a13 => k_is)
    (case l13 => k_is)
    (case c13 => k_is)
    (case k13 => k_is)
    (case a14 => k_is)
    (case l14 => k_is)
    (case c14 => k_is)
    (case k14 => k_is)
    (case a15 => k_is)
    (case l15 => k_is)
    (case c15 => k_is)
    (case k15 => k_is)
    (case a16 => k_is)
    (case l16 => k_is)
    (case c16 => k_is)
    (case k16 => k_is)
    (case a17 => k_is)
    (case l17 => k_is)
    (case c17 => k_is)
    (case k17 => k_is)
    (case a18 => k_is)
    (case l18 => k_is)
    (case c18 => k_is)
    (case k18 => k_is)
    (case a19 => k_is)
    (case l19 => k_is)
    (case c19 => k_is)
    (case k19 => k_is)
    (case a20 => k_is)
    (case l20 => k_is)
    (case c20 => k_is)
    (case k20 => k_is)
    (case a21 => k_is)
    (case l21 => k_is)
    (case c21 => k_is)
    (case k21 => k_is)
    (case a22 => k_is)
    (case l22 => k_is)
    (case c22 => k_is)
    (case k22 => k_is)
    (case a23 => k_is)
    (case l23 => k_is)
    (case c23 => k_is)
    (case k23 => k_is)
    (case a24 => k_is)
    (case l24 => k_is)
    (case c24 => k_is)
    (case k24 => k_is)
    (case a25 => k_is)
    (case l25 => k_is)
    (case c25 => k_is)
    (case k25 => k_is)
    (case a26 => k_is)
    (case l26 => k_is)
    (case c26 => k_is)
    (case k26 => k_is)
    (case a27 => k_is)
    (case l27 => k_is)
    (case c27 => k_is)
    (case k27 => k_is)
    (case a28 => k_is)
    (case l28 => k_is)
    (case c28 => k_is)
    (case k28 => k_is)
    (case a29 => k_is)
    (case l29 => k_is)
    (case c29 => k_is)
    (case k29 => k_is)
    (case a30 => k_is)
    (case l30 => k_is)
    (case c30 => k_is)
    (case k30 => k_is)
    (case a31 => k_is)
    (case l31 => k_is)
    (case c31 => k_is)
    (case k31 => k_is)
    (case z_bool => k_is)
    (case z_divmod => k_is)
    (case z_enumerate => k_is)
    (case z_int => k_is)
    (case z_isinstance => k_is)
    (case z_len => k_is)
    (case z_list => k_is)
    (case z_max => k_is)
    (case z_min => k_is)
    (case z_range => k_is)
    (case z_sum => k_is)
    (case z_zip => k_is)
    (case e_CELL_SIZE => k_is)
    (case e_CHECK_SIZE => k_is)
    (case e_HIGHEST => k_is)
    (case e_LOAD_SIZE => k_is)
    (case e_MOST_BITS => k_is)
    (case e_MOST_COUNT => k_is)
    (case e_MOST_GROUP => k_is)
    (case e_MOST_ZEROS => k_is)
    (case e_STATES => k_is)
    (case e_TURN => k_is)
    (case g_BadBits => k_is)
    (case x0_BadBits => k_exc)
    (case x1_BadBits => k_is)
    (case x2_BadBits => k_is)
    (case x3_BadBits => k_is)
    (case x4_BadBits => k_is)
    (case x5_BadBits => k_is)
    (case x6_BadBits => k_is)
    (case x7_BadBits => k_is)
    (case x8_BadBits => k_is)
    (case x9_BadBits => k_is)
    (case xa_BadBits => k_is)
    (case g_BadCells => k_is)
    (case x0_BadCells => k_exc)
    (case x1_BadCells => k_is)
    (case x2_BadCells => k_is)
    (case x3_BadCells => k_is)
    (case x4_BadCells => k_is)
    (case x5_BadCells => k_is)
    (case x6_BadCells => k_is)
    (case x7_BadCells => k_is)
    (case x8_BadCells => k_is)
    (case x9_BadCells => k_is)
    (case xa_BadCells => k_is)
    (case g_Great => k_is)
    (case x0_Great => k_exc)
    (case x1_Great => k_is)
    (case x2_Great => k_is)
    (case x3_Great => k_is)
    (case x4_Great => k_is)
    (case x5_Great => k_is)
    (case x6_Great => k_is)
    (case x7_Great => k_is)
    (case x8_Great => k_is)
    (case x9_Great => k_is)
    (case xa_Great => k_is)
    (case g_Outside => k_is)
    (case x0_Outside => k_exc)
    (case x1_Outside => k_is)
    (case x2_Outside => k_is)
    (case x3_Outside => k_is)
    (case x4_Outside => k_is)
    (case x5_Outside => k_is)
    (case x6_Outside => k_is)
    (case x7_Outside => k_is)
    (case x8_Outside => k_is)
    (case x9_Outside => k_is)
    (case xa_Outside => k_is)
    (case s_BadBits_BadBits => first | rfl | k_is)
    (case s_BadBits_BadCells => first | rfl | k_is)
    (case s_BadBits_Great => first | rfl | k_is)
    (case s_BadBits_Outside => first | rfl | k_is)
    (case s_BadCells_BadBits => first | rfl | k_is)
    (case s_BadCells_BadCells => first | rfl | k_is)
    (case s_BadCells_Great => first | rfl | k_is)
    (case s_BadCells_Outside => first | rfl | k_is)
    (case s_Great_BadBits => first | rfl | k_is)
    (case s_Great_BadCells => first | rfl | k_is)
    (case s_Great_Great => first | rfl | k_is)
    (case s_Great_Outside => first | rfl | k_is)
    (case s_Outside_BadBits => first | rfl | k_is)
    (case s_Outside_BadCells => first | rfl | k_is)
    (case s_Outside_Great => first | rfl | k_is)
    (case s_Outside_Outside => first | rfl | k_is)
#print axioms PySem.Challenge.cw_narrowingbits_k61_one_bad_cell_a_group_holds
