import PyProof.Rows.All
import Wide.All
import OpenK.AllK
import Wide.FinOn
import HandS.ForMost
import HandS.ForExc
import HandS.ExcIs
import HandS.IsInst
import HandS.TupLe
import HandS.Property
import HandS.MakeKwOnly
import HandS.ClsMeth
import HandS.ExcInit
import HandS.ExcField
import HandS.Nested
import HandS.TryOnly
import HandS.Replace
import HandS.More
import HandS.Codes
import HandS.Wide
import HandS.Style
import HandS.FStr
import HandS.StrMore
import HandS.WideBits
import HandS.Walk
import KE.KSuper
import KE.KExcSuper
import KE.KExcIs
import PyProof.StrBlock2
import PyProof.StrLawsIn
import PySem.Challenge.RW_narrowingbits_k36_settings_refused
set_option Elab.async false
set_option maxRecDepth 100000
set_option maxHeartbeats 4000000
namespace NB
open PySem L2
/-! ### the frozen part, the steps -/
/-- from (F, H) to (F', H'): F is what stands still, H the whole; S: the cells that may be written -/
structure Stp (S : Addr → Prop) (F H F' H' : Hp) : Prop where
  ff : Same F F'
  fh : Same F' H'
  fo : ∀ b o, H b = some o → F' b = F b
  keep : ∀ b o, ¬ S b → H b = some o → H' b = some o
  dom : ∀ b o, H b = some o → ∃ o', H' b = some o'
abbrev S0 : Addr → Prop := fun _ => False
abbrev S1 (p : Addr) : Addr → Prop := fun b => b = p
section
variable {S S' : Addr → Prop} {F H F1 H1 F2 H2 : Hp} {p : Addr} {o o' : HO}
theorem Stp.rfl' (h : Same F H) : Stp S F H F H := ⟨Same.refl F, h, fun _ _ _ => rfl, fun _ _ _ e => e, fun _ o e => ⟨o, e⟩⟩
theorem Stp.trans (a : Stp S F H F1 H1) (b : Stp S F1 H1 F2 H2) : Stp S F H F2 H2 :=
  ⟨a.ff.trans b.ff, b.fh, fun c o e => by
    obtain ⟨o', e'⟩ := a.dom c o e
    rw [b.fo c o' e', a.fo c o e], fun c o n e => b.keep c o n (a.keep c o n e), fun c o e => by
    obtain ⟨o', e'⟩ := a.dom c o e
    exact b.dom c o' e'⟩
theorem Stp.sub (i : ∀ b, S b → S' b) (a : Stp S F H F1 H1) : Stp S' F H F1 H1 := ⟨a.ff, a.fh, a.fo, fun b o n e => a.keep b o (fun z => n (i b z)) e, a.dom⟩
theorem Stp.up (a : Stp S0 F H F1 H1) : Stp S F H F1 H1 := a.sub fun _ z => z.elim
theorem Stp.same (a : Stp S0 F H F1 H1) : Same H H1 := fun b o e => a.keep b o (fun z => z) e
/-- a new thing that will never change -/
theorem Stp.new (h : Same F H) (hp : H p = none) : Stp S F H (upd F p o) (upd H p o) := by
  have fp : F p = none := h.free hp
  refine ⟨fun b u e => ?_, fun b u e => ?_, fun b u e => ?_, fun b u _ e => ?_, fun b u e => ⟨u, ?_⟩⟩
  · rw [upd_ne (ne_of_none e fp)]; exact e
  · by_cases q : b = p
    · subst q; rw [upd_same] at e ⊢; exact e
    · rw [upd_ne q] at e ⊢; exact h b u e
  · rw [upd_ne (ne_of_none e hp)]
  · rw [upd_ne (ne_of_none e hp)]; exact e
  · rw [upd_ne (ne_of_none e hp)]; exact e
/-- a new cell -/
theorem Stp.cell (h : Same F H) (hp : H p = none) : Stp S F H F (upd H p o) :=
  ⟨Same.refl F, fun b u e => by rw [upd_ne (ne_of_none (h b u e) hp)]; exact h b u e, fun _ _ _ => rfl, fun b u _ e => by rw [upd_ne (ne_of_none e hp)]; exact e, fun b u e => ⟨u, by rw [upd_ne (ne_of_none e hp)]; exact e⟩⟩
/-- a cell written -/
theorem Stp.wr (h : Same F H) (hs : S p) (fp : F p = none) : Stp S F H F (upd H p o) :=
  ⟨Same.refl F, fun b u e => by
    have n : b ≠ p := fun q => by rw [q, fp] at e; cases e
    rw [upd_ne n]; exact h b u e, fun _ _ _ => rfl, fun b u n e => by
    have q : b ≠ p := fun z => n (z ▸ hs)
    rw [upd_ne q]; exact e, fun b u e => by
    by_cases q : b = p
    · exact ⟨o, by rw [q, upd_same]⟩
    · exact ⟨u, by rw [upd_ne q]; exact e⟩⟩
/-- a cell that was made here is written -/
theorem Stp.wrNew (a : Stp S F H F1 H1) (hn : H p = none) (fp : F1 p = none) : Stp S F H F1 (upd H1 p o) :=
  ⟨a.ff, fun b u e => by
    have n : b ≠ p := fun q => by rw [q, fp] at e; cases e
    rw [upd_ne n]; exact a.fh b u e, a.fo, fun b u n e => by
    rw [upd_ne (ne_of_none e hn)]; exact a.keep b u n e, fun b u e => by
    rw [upd_ne (ne_of_none e hn)]; exact a.dom b u e⟩
/-- a cell that was made here stands still from now on -/
theorem Stp.freeze (a : Stp S F H F1 H1) (hn : H p = none) (hp : H1 p = some o) (fp : F1 p = none) : Stp S F H (upd F1 p o) H1 :=
  ⟨fun b u e => by
    have e1 := a.ff b u e
    rw [upd_ne (ne_of_none e1 fp)]; exact e1, fun b u e => by
    by_cases q : b = p
    · subst q; rw [upd_same] at e; cases e; exact hp
    · rw [upd_ne q] at e; exact a.fh b u e, fun b u e => by
    rw [upd_ne (ne_of_none e hn)]; exact a.fo b u e, a.keep, a.dom⟩
theorem Stp.free (a : Stp S F H F1 H1) (hp : H p = some o) (fp : F p = none) : F1 p = none := (a.fo p o hp).trans fp
end
/-! ### a def that stands, with its promise -/
structure Fn (P : Program) (w : World) (K : PySem.W.Frag) (mg : Str → Option Value) (base : Heap) (CX : CXT) (k : Nat) (nm : Str) (st : Stmt) (f : Addr) (fd : FuncData) (ps : List Str) (sp : Sp) : Prop where
  G : FnOk P w K mg base CX k f fd ps sp
  m : mg nm = some (.ref f)
  kp : PySem.W.keepIn K (.ref f) = true
  b : Binds K fd ps []
  F : Fun K nm nm st f fd
/-! ### keywords -/
def gK {α : Type} (n m : Nat) (us ws : List α) : List α := if us.length = n ∧ ws.length = m then us ++ ws else []
theorem _root_.L2.Fun.kbinds {K : PySem.W.Frag} {x qual : Str} {st : Stmt} {f : Addr} {fd : FuncData} {ps : List Str} (F : Fun K x qual st f fd) (n : Nat) (ks : List Str) (hn : 0 < ps.length)
    (h : ∀ (kV doc pm : Value) (an : Option Addr) (cdv ct : Value) (us ws : List Value), us.length = n → ws.length = ks.length → bindArgs (PySem.W.fnOf x qual (defArgs st) (defBody st) (defScope st) .none kV doc pm an cdv ct) ⟨us, ks.zip ws⟩ = pure (ps.zip (us ++ ws))) :
    KBinds K fd ps ks (gK n ks.length) (gK n ks.length) := by
  obtain ⟨oc, od, kV, doc, pm, an, cdv, ct, osl, rfl, lk, hcd⟩ := F.ex
  refine ⟨fun s us ws _ hl => ?_, fun {vs us zs ws} r rz => ?_⟩
  · by_cases c : us.length = n ∧ ws.length = ks.length
    · have e : gK n ks.length us ws = us ++ ws := if_pos c
      rw [e]
      exact .of_eq (h kV doc pm an cdv ct us ws c.1 c.2)
    · have e : gK n ks.length us ws = [] := if_neg c
      rw [e] at hl
      exact absurd hl (by show ¬ 0 = ps.length; omega)
  · unfold gK
    by_cases c : us.length = n ∧ ws.length = ks.length
    · have c' : vs.length = n ∧ zs.length = ks.length := ⟨r.length.trans c.1, rz.length.trans c.2⟩
      rw [if_pos c, if_pos c']
      exact r.append rz
    · have c' : ¬ (vs.length = n ∧ zs.length = ks.length) := fun z => c ⟨r.length.symm.trans z.1, rz.length.symm.trans z.2⟩
      rw [if_neg c, if_neg c']
      exact .nil
def tCallK0 (sp : Sp) (gV : List V → List V → List V) (E : XK) (tk : TA) : TE := fun σ H Q => tk σ H fun zs H2 => sp (gV [] zs) H2 Q E
theorem pe_callK0 {X : Cx} {CX : CXT} {k : Nat} {f : Addr} {fd : FuncData} {ps ks : List Str} {sp : Sp} {E : XK} {x : Str} {p pos : Pos} {kws : List Keyword} {tk : TA} {g : List Value → List Value → List Value} {gV : List V → List V → List V}
    (F : FnOk X.prog X.w X.K X.mg X.base CX k f fd ps sp) (hr : Room k X.A) (hg : Gl X x) (hm : X.mg x = some (.ref f)) (hk : PySem.W.keepIn X.K (.ref f) = true) (hb : KBinds X.K fd ps ks g gV) (hx : Passes CX X E) (hkw : PK X kws tk)
    (hall : (backToKw pos (keywordEach kws X.env)).all (·.1.isSome) = true := by rfl) (hks : (backToKw pos (keywordEach kws X.env)).filterMap (·.1) = ks := by rfl) (hdb : (x == ("__debug__" : Str)) = false := by decide)
    (hpl : ((backTo pos (starEach [] X.env)).any (·.1) || (backToKw pos (keywordEach kws X.env)).any (·.1.isNone)) = false := by rfl) : PE X (.Call (.Name x p) [] kws pos) (tCallK0 sp gV E tk) := by
  refine ⟨fun pins s σ H Q I h => ?_⟩
  refine wpAny_Call_Name_kw (ld_glob I hg hm ?_ hdb)
  refine PySem.W.callWith_KW0 (h₀ := X.base) I.ok.mod.kin hk hall ?_ hpl
  refine thn (hkw.run pos pins s σ H _ I h) fun ws s2 ⟨zs, H2, I2, rz, q2⟩ => ⟨I2.kIn, ?_⟩
  rw [hks]
  exact run_fnk F hr hb hx I2 .nil rz q2
def SpN (n : Nat) (s : Sp) : Sp := fun vs H Q E => vs.length = n ∧ s vs H Q E
/-! ### rules under names -/
def rInt1 : List V → Hp → VK → Prop := fun xs H Q => (∃ i, xs = [.int i] ∧ Q (.int i) H) ∨ ∃ k, xs = [.bl k] ∧ Q (.int (if k then 1 else 0)) H
def rMax2 : List V → Hp → VK → Prop := fun xs H Q => ∃ i j, xs = [.int i, .int j] ∧ Q (.int (if j > i then j else i)) H
def rMin2 : List V → Hp → VK → Prop := fun xs H Q => ∃ i j, xs = [.int i, .int j] ∧ Q (.int (if j < i then j else i)) H
def rLen (K : PySem.W.Frag) : List V → Hp → VK → Prop := fun xs H Q => ∃ p ys, xs = [.ref p] ∧ (SqL K H p ys ∨ SqT K H p ys) ∧ Q (.int ys.length) H
section
variable {X : Cx}
theorem c_int1 : CallR X (.type "int") rInt1 := call_int1
theorem c_max2 (hc : X.calm = true) : CallR X (.builtin "max") rMax2 := call_max2 hc
theorem c_min2 (hc : X.calm = true) : CallR X (.builtin "min") rMin2 := call_min2 hc
theorem c_len (K : PySem.W.Frag) (e : X.K = K) : CallR X (.builtin "len") (rLen K) := by subst e; exact call_len_seq
theorem c_isi (K : PySem.W.Frag) (e : X.K = K) : CallR X (.builtin "isinstance") (rIsi K) := by subst e; exact call_isi
theorem i_list (K : PySem.W.Frag) (e : X.K = K) : IxR X (rIxL K) := by subst e; exact ix_list
theorem i_tup (K : PySem.W.Frag) (e : X.K = K) : IxR X (rIxT K) := by subst e; exact ix_tup
theorem o_and1 : OpR X (binaryOp .BitAnd) (fun x y H Q => ∃ i : Int, x = .int i ∧ y = .int 1 ∧ Q (.int (i % 2)) H) := by
  intro pins s σ H x y v u Q I rx ry h
  obtain ⟨i, rfl, rfl, q⟩ := h
  exact op_andM pins s σ H _ _ v u Q I rx ry ⟨i, 1, rfl, rfl, by simpa using q⟩
theorem l_list (K : PySem.W.Frag) (e : X.K = K) : SlR X (rSlL K) := by subst e; exact sl_list
theorem o_in (K : PySem.W.Frag) (e : X.K = K) : OpR X (compareOp .In) (rIn K false) := by subst e; exact op_in_seq
theorem o_notIn (K : PySem.W.Frag) (e : X.K = K) : OpR X (compareOp .NotIn) (rIn K true) := by subst e; exact op_notIn_seq
def rDivmod : List V → Hp → VK → Prop := fun xs H Q => ∃ i j, xs = [.int i, .int j] ∧ CDiv i j ∧ ∀ p, H p = none → Q (.ref p) (upd H p (.tup [.int (i / j), .int (i % j)]))
theorem c_divmod : CallR X (.builtin "divmod") rDivmod := call_divmod
theorem o_eqD (K : PySem.W.Frag) (e : X.K = K) (hu : X.A.units + 64 < cLine) : OpR X (compareOp .Eq) (rEqD K) := by subst e; exact op_eqD hu
theorem o_neD (K : PySem.W.Frag) (e : X.K = K) (hu : X.A.units + 64 < cLine) : OpR X (compareOp .NotEq) (rNeD K) := by subst e; exact op_neD hu
end
theorem sz {n : Nat} (h : n ≤ 100000) : n ≤ sizeLine := Nat.le_trans h (by decide)
/-! ### readings, step by step -/
section
variable {X : Cx} {K : PySem.W.Frag} {σ : L2.St} {H F : Hp} {Q : VK} {i : Nat} {v x y : V} {ta tb : TE} {r : R2}
theorem s_var (h : σ[i]? = some (some v)) (q : Q v H) : tVar i σ H Q := ⟨v, h, q⟩
theorem s_c (q : Q v H) : tC v σ H Q := q
theorem s_op (h : ta σ H fun x H1 => tb σ H1 fun y H2 => r x y H2 Q) : tOp r ta tb σ H Q := h
theorem s_I0 {g : Int → Int → V} {i j : Int} (q : Q (g i j) H) : rI0 g (.int i) (.int j) H Q := ⟨i, j, rfl, rfl, q⟩
theorem s_I {C : Int → Int → Prop} {g : Int → Int → V} {i j : Int} (c : C i j) (q : Q (g i j) H) : rI C g (.int i) (.int j) H Q := ⟨i, j, rfl, rfl, c, q⟩
theorem s_eq (h : scal x y = true) (q : Q (.bl (decide (x = y))) H) : rEq x y H Q := ⟨h, q⟩
theorem dec_int (i j : Int) : decide (V.int i = V.int j) = decide (i = j) := by by_cases h : i = j <;> simp [h]
theorem dec_str (i j : Str) : decide (V.str i = V.str j) = decide (i = j) := by by_cases h : i = j <;> simp [h]
theorem s_eqI {i j : Int} (q : Q (.bl (decide (i = j))) H) : rEq (.int i) (.int j) H Q := ⟨rfl, by rw [dec_int]; exact q⟩
theorem s_neI {i j : Int} (q : Q (.bl (!decide (i = j))) H) : rNe (.int i) (.int j) H Q := ⟨rfl, by rw [dec_int]; exact q⟩
theorem s_eqS {i j : Str} (q : Q (.bl (decide (i = j))) H) : rEq (.str i) (.str j) H Q := ⟨rfl, by rw [dec_str]; exact q⟩
theorem s_neS {i j : Str} (q : Q (.bl (!decide (i = j))) H) : rNe (.str i) (.str j) H Q := ⟨rfl, by rw [dec_str]; exact q⟩
theorem s_chain {r' : R2} {tc : TE} (h : ta σ H fun x H1 => tb σ H1 fun y H2 => r x y H2 fun z H3 => ∃ k, z = .bl k ∧ if k = true then tc σ H3 fun u H4 => r' y u H4 Q else Q (.bl false) H3) : tChain r r' ta tb tc σ H Q := by
  unfold tChain; exact h
theorem s_par3 {i j l : Nat} {ta : TA} {D : Ends} (h : ta σ H fun vs H1 => ∃ u v w, vs = [u, v, w] ∧ D.nx (((σ.set i (some u)).set j (some v)).set l (some w)) H1) : tPar3 i j l ta D σ H := h
theorem s_par {i j : Nat} {ta : TA} {D : Ends} (h : ta σ H fun vs H1 => ∃ v w, vs = [v, w] ∧ D.nx ((σ.set i (some v)).set j (some w)) H1) : tPar i j ta D σ H := h
theorem s_v2 {x y : V} {R : V → V → Prop} (h : R x y) : ∃ a b, [x, y] = [a, b] ∧ R a b := ⟨x, y, rfl, h⟩
theorem s_v3 {x y z : V} {R : V → V → V → Prop} (h : R x y z) : ∃ a b c, [x, y, z] = [a, b, c] ∧ R a b c := ⟨x, y, z, rfl, h⟩
theorem s_tup {t : TA} (h : t σ H fun xs H1 => xs.length ≤ sizeLine ∧ ∀ p, H1 p = none → Q (.ref p) (upd H1 p (.tup xs))) : tTup t σ H Q := h
theorem s_lst {t : TA} (h : t σ H fun xs H1 => xs.length ≤ sizeLine ∧ ∀ p, H1 p = none → Q (.ref p) (upd H1 p (.lst xs))) : tLst t σ H Q := h
theorem s_nil {Q : List V → Hp → Prop} (q : Q [] H) : tNil σ H Q := q
theorem s_cons {t : TA} {Q : List V → Hp → Prop} (h : ta σ H fun x H1 => t σ H1 fun xs H2 => Q (x :: xs) H2) : tCons ta t σ H Q := h
theorem s_call {sp : Sp} {dvs : List V} {E : XK} {t : TA} (h : t σ H fun vs H1 => sp (vs ++ dvs) H1 Q E) : tCall sp dvs E t σ H Q := h
theorem s_callK0 {sp : Sp} {gV : List V → List V → List V} {E : XK} {t : TA} (h : t σ H fun zs H1 => sp (gV [] zs) H1 Q E) : tCallK0 sp gV E t σ H Q := h
theorem s_callK {sp : Sp} {gV : List V → List V → List V} {E : XK} {t tk : TA} (h : t σ H fun vs H1 => tk σ H1 fun zs H2 => sp (gV vs zs) H2 Q E) : tCallK sp gV E t tk σ H Q := h
theorem s_bits (h : ta σ H fun x H1 => ∃ i, x = .int i ∧ Q (.int (Builtin.Int.intBits i : Nat)) H1) : tBits ta σ H Q := h
theorem s_i {i : Int} {R : Int → Prop} (h : R i) : ∃ j, V.int i = V.int j ∧ R j := ⟨i, rfl, h⟩
theorem s_bm {T : String} {r : V → List V → Hp → VK → Prop} {to : TE} {t : TA} (h : to σ H fun x H1 => tyV K T x H1 ∧ t σ H1 fun xs H2 => r x xs H2 Q) : tBM K T r to t σ H Q := h
theorem s_bm0 {T : String} {r : V → List V → Hp → VK → Prop} {to : TE} (h : to σ H fun x H1 => tyV K T x H1 ∧ r x [] H1 Q) : tBM0 K T r to σ H Q := h
theorem s_m1 {r : V → List V → Hp → VK → Prop} (h : ta σ H fun x H1 => (∃ a, x = .str a) ∧ tb σ H1 fun y H2 => r x [y] H2 Q) : tM1 r ta tb σ H Q := h
theorem s_cb {r : List V → Hp → VK → Prop} {t : TA} (h : t σ H fun vs H1 => r vs H1 Q) : tCB r t σ H Q := h
theorem s_test {Q : Bool → Hp → Prop} {t : TE} (h : t σ H fun x H' => ∃ k, x = .bl k ∧ Q k H') : tTest t σ H Q := h
theorem s_tB {Q : Bool → Hp → Prop} {t : TE} (h : t σ H fun x H' => ∃ k, x = .bl k ∧ Q k H') : tB t σ H Q := h
theorem s_bl {k : Bool} {Q : Bool → Hp → Prop} (q : Q k H) : ∃ k', V.bl k = .bl k' ∧ Q k' H := ⟨k, rfl, q⟩
theorem s_not {Q : Bool → Hp → Prop} {t : TT} (h : t σ H fun c H1 => Q (!c) H1) : tNot t σ H Q := h
theorem s_and {Q : Bool → Hp → Prop} {t u : TT} (h : t σ H fun c H1 => if c = true then u σ H1 Q else Q false H1) : tAnd t u σ H Q := h
theorem s_or {Q : Bool → Hp → Prop} {t u : TT} (h : t σ H fun c H1 => if c = true then Q true H1 else u σ H1 Q) : tOr t u σ H Q := h
theorem s_un {r : V → Hp → VK → Prop} (h : ta σ H fun x H1 => r x H1 Q) : tUn r ta σ H Q := h
theorem s_U {g : Int → V} {i : Int} (q : Q (g i) H) : rU g (.int i) H Q := ⟨i, rfl, q⟩
theorem s_int1 {i : Int} (q : Q (.int i) H) : rInt1 [.int i] H Q := .inl ⟨i, rfl, q⟩
theorem s_int1b {b : Bool} (q : Q (.int (if b then 1 else 0)) H) : rInt1 [.bl b] H Q := .inr ⟨b, rfl, q⟩
theorem s_ixL {p : Addr} {xs : List V} {i : Int} (h : SqL K H p xs) (a : atI xs i = some v) (q : Q v H) : rIxL K (.ref p) (.int i) H Q := ⟨p, xs, i, v, rfl, rfl, h, a, q⟩
theorem s_ixT {p : Addr} {xs : List V} {i : Int} (h : SqT K H p xs) (a : atI xs i = some v) (q : Q v H) : rIxT K (.ref p) (.int i) H Q := ⟨p, xs, i, v, rfl, rfl, h, a, q⟩
theorem s_len {p : Addr} {xs : List V} (h : SqL K H p xs) (q : Q (.int xs.length) H) : rLen K [V.ref p] H Q := ⟨p, xs, rfl, .inl h, q⟩
theorem s_lenT {p : Addr} {xs : List V} (h : SqT K H p xs) (q : Q (.int xs.length) H) : rLen K [V.ref p] H Q := ⟨p, xs, rfl, .inr h, q⟩
theorem s_max2 {i j : Int} (q : Q (.int (if j > i then j else i)) H) : rMax2 [.int i, .int j] H Q := ⟨i, j, rfl, q⟩
theorem s_min2 {i j : Int} (q : Q (.int (if j < i then j else i)) H) : rMin2 [.int i, .int j] H Q := ⟨i, j, rfl, q⟩
theorem s_isi {v : V} {n : String} {t : String} {b : Bool} (h : TyX K H v (.type t)) (e : kitB t n = some b) (q : Q (.bl b) H) : rIsi K [v, .ty n] H Q := ⟨v, .ty n, .type t, .type n, b, rfl, .ty n, h, kit_ty e, q⟩
theorem s_eqD {d e : PyData} (h1 : Dp K H x d) (h2 : Dp K H y e) (s1 : SeqAt.shaped d = true) (s2 : SeqAt.shaped e = true) (q : Q (.bl (PyData.eqv d e)) H) : rEqD K x y H Q := ⟨d, e, h1, h2, s1, s2, q⟩
theorem s_andV {c : Bool} (h : if c = true then tb σ H Q else Q (.bl false) H) : ∃ c', V.bl c = .bl c' ∧ if c' = true then tb σ H Q else Q (.bl false) H := ⟨c, rfl, h⟩
theorem s_andV0 (h : ta σ H fun x H1 => ∃ c, x = .bl c ∧ if c = true then tb σ H1 Q else Q (.bl false) H1) : tAndV ta tb σ H Q := h
theorem s_orV0 (h : ta σ H fun x H1 => ∃ c, x = .bl c ∧ if c = true then Q (.bl true) H1 else tb σ H1 Q) : tOrV ta tb σ H Q := h
theorem s_notV (h : ta σ H fun x H1 => ∃ c, x = .bl c ∧ Q (.bl (!c)) H1) : tNotV ta σ H Q := h
theorem s_b {c : Bool} {R : Bool → Prop} (h : R c) : ∃ c', V.bl c = V.bl c' ∧ R c' := ⟨c, rfl, h⟩
theorem s_gtup {n : Nat} {t : TGs} {a : Addr} {xs : List V} {R : L2.St → Hp → Prop} (h : SqT K H a xs) (e : xs.length = n) (q : t xs σ H R) : gTup K n t (.ref a) σ H R := ⟨a, xs, rfl, h, e, q⟩
theorem s_gcons {t : TG} {u : TGs} {r : List V} {R : L2.St → Hp → Prop} (q : t v σ H fun σ' H' => u r σ' H' R) : gCons t u (v :: r) σ H R := ⟨v, r, rfl, q⟩
theorem s_gnil {R : L2.St → Hp → Prop} (q : R σ H) : gNil [] σ H R := ⟨rfl, q⟩
theorem s_gsub {to ti : TE} {t : TSet} {R : L2.St → Hp → Prop} (h : to σ H fun o H1 => ti σ H1 fun i H2 => t o i v H2 fun H3 => R σ H3) : gSub to ti t v σ H R := h
theorem s_setL {p : Addr} {xs : List V} {i : Int} {j : Nat} {R : Hp → Prop} (h : H p = some (.lst xs)) (e : ixN xs.length i = some j) (q : R (upd H p (.lst (xs.set j v)))) : rSetL (.ref p) (.int i) v H R := ⟨p, xs, i, j, rfl, rfl, h, e, q⟩
theorem s_ifE {t : TT} (h : t σ H fun c H1 => if c = true then ta σ H1 Q else tb σ H1 Q) : tIf t ta tb σ H Q := h
variable {D : Ends} {t u : TS}
theorem s_seq (h : t { D with nx := u D } σ H) : tSeq t u D σ H := h
theorem s_next (h : D.nx σ H) : tNext D σ H := h
theorem s_asg {g : TG} (h : ta σ H fun x H1 => g x σ H1 D.nx) : tAsg ta g D σ H := h
theorem s_gname {R : L2.St → Hp → Prop} (h : R (σ.set i (some v)) H) : gName i v σ H R := h
theorem s_ret (h : ta σ H D.rt) : tRet ta D σ H := h
theorem s_if {c : TT} (h : c σ H fun b H1 => if b = true then t D σ H1 else u D σ H1) : tIfS c t u D σ H := h
theorem s_drop (h : ta σ H fun _ H1 => D.nx σ H1) : tDrop ta D σ H := h
/-- a loop over what stands -/
def forT (J : It) (g : TG) (tb : TS) : TS := tFor (fun _ H R => R J H) g tb
theorem s_for {wi : TI} {g : TG} {tb : TS} (h : wi σ H fun J H1 => forT J g tb D σ H1) : tFor wi g tb D σ H := h
theorem s_iR1 {ta : TA} {R : It → Hp → Prop} (h : ta σ H fun vs H1 => ∃ n : Int, vs = [.int n] ∧ -(2 ^ 62) ≤ n ∧ n < 2 ^ 62 ∧ R (Itr 0 n.toNat) H1) : iRng1 ta σ H R := h
theorem s_iR2 {ta : TA} {R : It → Hp → Prop} (h : ta σ H fun vs H1 => ∃ m n : Int, vs = [.int m, .int n] ∧ (-(2 ^ 62) ≤ m ∧ m < 2 ^ 62 ∧ -(2 ^ 62) ≤ n ∧ n < 2 ^ 62) ∧ R (Itr m (n - m).toNat) H1) : iRng2 ta σ H R := h
theorem s_iL {R : It → Hp → Prop} (h : ta σ H fun x H1 => ∃ a, x = .ref a ∧ (∃ xs, SqL K H1 a xs) ∧ R (Itl K a) H1) : iList K ta σ H R := h
theorem s_iT {R : It → Hp → Prop} (h : ta σ H fun x H1 => ∃ a, x = .ref a ∧ (∃ xs, SqT K H1 a xs) ∧ R (Itt K a) H1) : iTup K ta σ H R := h
theorem s_iS {R : It → Hp → Prop} (h : ta σ H fun x H1 => ∃ z, x = .str z ∧ R (Its z) H1) : iStr ta σ H R := h
theorem forW {J : It} {n : Nat} {G : Hp → Prop} {Y : Nat → Hp → V → Hp → Prop} {g : TG} {tb : TS} (w : Walk J n G Y) (Pv : Nat → L2.St → Hp → Prop) (h0 : Pv 0 σ H) (hG : ∀ i σ H, i ≤ n → Pv i σ H → G H)
    (hs : ∀ i x σ H H', i < n → Pv i σ H → Y i H x H' → g x σ H' fun σ2 H2 => tb { D with nx := Pv (i + 1), ct := Pv (i + 1), bk := D.nx } σ2 H2) (hd : ∀ σ H, Pv n σ H → D.nx σ H) : forT J g tb D σ H := for_it w Pv h0 hG hs hd
theorem forR {lo : Int} {n : Nat} {g : TG} {tb : TS} (Pv : Nat → L2.St → Hp → Prop) (h0 : Pv 0 σ H) (hs : ∀ i σ H, i < n → Pv i σ H → g (.int (lo + i)) σ H fun σ2 H2 => tb { D with nx := Pv (i + 1), ct := Pv (i + 1), bk := D.nx } σ2 H2)
    (hd : ∀ σ H, Pv n σ H → D.nx σ H) : forT (Itr lo n) g tb D σ H := for_range Pv h0 hs hd
theorem forL {a : Addr} {xs : List V} {g : TG} {tb : TS} (Pv : Nat → L2.St → Hp → Prop) (h0 : Pv 0 σ H) (hl : ∀ i σ H, i ≤ xs.length → Pv i σ H → SqL K H a xs)
    (hs : ∀ i x σ H, xs[i]? = some x → Pv i σ H → g x σ H fun σ2 H2 => tb { D with nx := Pv (i + 1), ct := Pv (i + 1), bk := D.nx } σ2 H2) (hd : ∀ σ H, Pv xs.length σ H → D.nx σ H) : forT (Itl K a) g tb D σ H := for_list Pv h0 hl hs hd
/-- a comprehension over what stands -/
def lcT (J : It) (g : TG) (tt : TT) (te : TE) (vs : List Nat) : TE := tLc (fun _ H R => R J H) g tt te vs
theorem s_lc {wi : TI} {g : TG} {tt : TT} {te : TE} {vs : List Nat} (h : wi σ H fun J H1 => lcT J g tt te vs σ H1 Q) : tLc wi g tt te vs σ H Q := h
theorem s_sl {r : V → Option Int → Option Int → Hp → VK → Prop} {tl th : TO} (h : ta σ H fun x H1 => tl σ H1 fun l H2 => th σ H2 fun u H3 => r x l u H3 Q) : tSl r ta tl th σ H Q := h
theorem s_part {R : Option Int → Hp → Prop} (h : ta σ H fun x H1 => ∃ i, x = .int i ∧ R (some i) H1) : tPart ta σ H R := h
theorem s_nopart {R : Option Int → Hp → Prop} (h : R none H) : tNoPart σ H R := h
theorem s_slL {p : Addr} {xs : List V} {l u : Option Int} (h : SqL K H p xs) (q : ∀ p', H p' = none → Q (.ref p') (upd H p' (.lst (cutV xs l u)))) : rSlL K (.ref p) l u H Q := ⟨p, xs, rfl, h, q⟩
theorem s_iR3 {ta : TA} {R : It → Hp → Prop} (h : ta σ H fun vs H1 => ∃ (i j c : Int) (n : Nat), vs = [.int i, .int j, .int c] ∧ RgC i j c n ∧ R (Itc i c n) H1) : iRng3 ta σ H R := h
theorem rgc_up {L k : Int} (hL : 0 ≤ L) (hL2 : L < 2 ^ 62) (hk : 0 < k) (hk2 : k < 1073741824) : RgC 0 L k ((L + k - 1) / k).toNat := by
  have e : Builtin.Range.rangeSize 0 L k = (((L + k - 1) / k).toNat : Int) := by
    unfold Builtin.Range.rangeSize
    rw [if_pos hk]
    have h0 : 0 ≤ (L + k - 1) / k := Int.ediv_nonneg (by omega) (by omega)
    split
    · rw [show L + k - 1 = (L - 0 - 1) + k by omega, Int.add_ediv_of_dvd_right (Int.dvd_refl k), Int.ediv_self (by omega)]
      have : 0 ≤ (L - 0 - 1) / k := Int.ediv_nonneg (by omega) (by omega)
      omega
    · have : L = 0 := by omega
      subst this
      rw [Int.ediv_eq_zero_of_lt (by omega) (by omega)]; rfl
  refine ⟨by omega, by omega, ?_, e⟩
  have hb : (L + k - 1) / k ≤ L + k - 1 := Int.ediv_le_self _ (by omega)
  unfold Builtin.Range.small
  rw [e]
  simp only [Builtin.Range.rangeFitsLong, Bool.and_eq_true, Bool.or_eq_true, decide_eq_true_eq, beq_iff_eq, show (k > 0) = True from eq_true hk, if_true]
  omega
theorem s_wipe {σ2 : L2.St} {vs : List Nat} {R : Prop} (h : wipe σ2 vs = wipe σ vs) (q : R) : wipe σ2 vs = wipe σ vs ∧ R := ⟨h, q⟩
theorem s_yes {Q : Bool → Hp → Prop} (q : Q true H) : tYes σ H Q := q
/-- within a comprehension: what has been made so far stands at D -/
structure LcP (S : Addr → Prop) (F H : Hp) (Dd : Addr) (R : Nat → List V → Hp → Hp → Prop) (i : Nat) (Hc : Hp) : Prop where
  ex : ∃ Fc acc, Stp S F H Fc Hc ∧ Fc Dd = none ∧ Hc Dd = some (.lst acc) ∧ acc.length ≤ i ∧ R i acc Fc Hc
  fresh : H Dd = none
theorem lcW {J : It} {n : Nat} {G : Hp → Prop} {Y : Nat → Hp → V → Hp → Prop} {g : TG} {tt : TT} {te : TE} {vs : List Nat} (w : Walk J n G Y) (S : Addr → Prop) (hF : Same F H) (hS : ∀ b, S b → ∃ o, H b = some o)
    (hG : ∀ F1 H1, Stp S F H F1 H1 → G H1) (R : Nat → List V → Hp → Hp → Prop) (hR : ∀ i acc F1 H1 d o, ¬ S d → F1 d = none → Stp S F H F1 H1 → R i acc F1 H1 → R i acc F1 (upd H1 d o)) (h0 : R 0 [] F H)
    (hs : ∀ i x acc d F1 H1 H2, i < n → Y i H1 x H2 → H d = none → ¬ S d → Stp S F H F1 H1 → F1 d = none → H1 d = some (.lst acc) → acc.length ≤ i → R i acc F1 H1 → g x (wipe σ vs) H2 fun σ2 H3 => wipe σ2 vs = wipe σ vs ∧ tt σ2 H3 fun b H4 =>
      if b = true then te σ2 H4 fun y H5 => ∃ acc', H5 d = some (.lst acc') ∧ acc'.length < sizeLine ∧ LcP S F H d R (i + 1) (upd H5 d (.lst (acc' ++ [y]))) else LcP S F H d R (i + 1) H4)
    (hd : ∀ d acc F0 F1 H1, Stp S F H F0 H1 → H d = none → F0 d = none → F1 = upd F0 d (.lst acc) → Stp S F H F1 H1 → acc.length ≤ n → R n acc F0 H1 → Q (.ref d) H1) : lcT J g tt te vs σ H Q := by
  intro d hd0
  have nS : ¬ S d := fun z => by
    obtain ⟨o, e⟩ := hS d z
    rw [hd0] at e; cases e
  refine lc_it w (LcP S F H d R) ⟨⟨F, [], Stp.cell hF hd0, hF.free hd0, upd_same, Nat.le_refl _, hR 0 [] F H d _ nS (hF.free hd0) (.rfl' hF) h0⟩, hd0⟩ (fun i H1 _ p => ?_) (fun i x H1 H2 hi p y => ?_) (fun H1 p => ?_)
  · obtain ⟨⟨Fc, acc, st, _⟩, _⟩ := p
    exact hG _ _ st
  · obtain ⟨⟨Fc, acc, st, f0, e, hl, r⟩, _⟩ := p
    exact hs i x acc d Fc H1 H2 hi y hd0 nS st f0 e hl r
  · obtain ⟨⟨Fc, acc, st, f0, e, hl, r⟩, _⟩ := p
    exact hd d acc Fc _ H1 st hd0 f0 rfl (st.freeze hd0 e f0) hl r
theorem lc_end {S : Addr → Prop} {R : Nat → List V → Hp → Hp → Prop} {i : Nat} {acc : List V} {d : Addr} {F1 H1 F4 H4 : Hp} {y : V} (hN : H d = none) (nS : ¬ S d) (st : Stp S F H F1 H1) (f0 : F1 d = none) (e : H1 d = some (.lst acc)) (hl : acc.length ≤ i) (hi : i < 100000)
    (s4 : Stp S F1 H1 F4 H4) (r : R (i + 1) (acc ++ [y]) F4 (upd H4 d (.lst (acc ++ [y])))) : ∃ acc', H4 d = some (.lst acc') ∧ acc'.length < sizeLine ∧ LcP S F H d R (i + 1) (upd H4 d (.lst (acc' ++ [y]))) :=
  ⟨acc, s4.keep _ _ nS e, Nat.lt_of_lt_of_le (Nat.lt_of_le_of_lt hl hi) (by decide), ⟨⟨F4, acc ++ [y], (st.trans s4).wrNew hN ((s4.fo _ _ e).trans f0), (s4.fo _ _ e).trans f0, upd_same, by simp; omega, r⟩, hN⟩⟩
theorem lc_skip {S : Addr → Prop} {R : Nat → List V → Hp → Hp → Prop} {i : Nat} {acc : List V} {d : Addr} {F1 H1 F4 H4 : Hp} (hN : H d = none) (nS : ¬ S d) (st : Stp S F H F1 H1) (f0 : F1 d = none) (e : H1 d = some (.lst acc)) (hl : acc.length ≤ i)
    (s4 : Stp S F1 H1 F4 H4) (r : R (i + 1) acc F4 H4) : LcP S F H d R (i + 1) H4 := ⟨⟨F4, acc, st.trans s4, (s4.fo _ _ e).trans f0, s4.keep _ _ nS e, by omega, r⟩, hN⟩
theorem ifd {p A B : Prop} [Decidable p] (a : p → A) (b : ¬ p → B) : if decide p = true then A else B := by
  by_cases h : p
  · rw [if_pos (decide_eq_true h)]; exact a h
  · rw [if_neg (by simp [h])]; exact b h
theorem itNF {A B : Prop} (h : B) : if (!true) = true then A else B := h
theorem itNT {A B : Prop} (h : A) : if (!false) = true then A else B := h
theorem ifn {p A B : Prop} [Decidable p] (a : p → B) (b : ¬ p → A) : if (!decide p) = true then A else B := by
  by_cases h : p
  · rw [if_neg (by simp [h])]; exact a h
  · rw [if_pos (by simp [h])]; exact b h
end
theorem eqv_ints (u v : Int) : PyData.eqv (.tuple [.int u, .int v]) (.tuple [.int u, .int v]) = true := by simp [PyData.eqv, PyData.eqvAll]
/-! ### tests that may be weakened (for while) -/
def MonE (t : TE) : Prop := ∀ σ H (Q Q' : VK), (∀ v H1, Q v H1 → Q' v H1) → t σ H Q → t σ H Q'
def MonT (t : TT) : Prop := ∀ σ H (Q Q' : Bool → Hp → Prop), (∀ b H1, Q b H1 → Q' b H1) → t σ H Q → t σ H Q'
def MonA (t : TA) : Prop := ∀ σ H (Q Q' : List V → Hp → Prop), (∀ vs H1, Q vs H1 → Q' vs H1) → t σ H Q → t σ H Q'
def MonR (r : R2) : Prop := ∀ x y H (Q Q' : VK), (∀ v H1, Q v H1 → Q' v H1) → r x y H Q → r x y H Q'
theorem mon_var {i : Nat} : MonE (tVar i) := fun _ _ _ _ h ⟨v, e, q⟩ => ⟨v, e, h _ _ q⟩
theorem mon_c {v : V} : MonE (tC v) := fun _ _ _ _ h q => h _ _ q
theorem mon_op {r : R2} {a b : TE} (hr : MonR r) (ha : MonE a) (hb : MonE b) : MonE (tOp r a b) := fun σ _ _ _ h q => ha _ _ _ _ (fun x H1 q1 => hb _ _ _ _ (fun y H2 q2 => hr _ _ _ _ _ h q2) q1) q
theorem mon_I0 {g : Int → Int → V} : MonR (rI0 g) := fun _ _ _ _ _ h ⟨i, j, e1, e2, q⟩ => ⟨i, j, e1, e2, h _ _ q⟩
theorem mon_I {C : Int → Int → Prop} {g : Int → Int → V} : MonR (rI C g) := fun _ _ _ _ _ h ⟨i, j, e1, e2, c, q⟩ => ⟨i, j, e1, e2, c, h _ _ q⟩
theorem mon_eq : MonR rEq := fun _ _ _ _ _ h ⟨e, q⟩ => ⟨e, h _ _ q⟩
theorem mon_ne : MonR rNe := fun _ _ _ _ _ h ⟨e, q⟩ => ⟨e, h _ _ q⟩
theorem mon_ixL {K : PySem.W.Frag} : MonR (rIxL K) := fun _ _ _ _ _ h ⟨p, xs, i, v, e1, e2, s, a, q⟩ => ⟨p, xs, i, v, e1, e2, s, a, h _ _ q⟩
theorem mon_nil : MonA tNil := fun _ _ _ _ h q => h _ _ q
theorem mon_cons {a : TE} {t : TA} (ha : MonE a) (ht : MonA t) : MonA (tCons a t) := fun σ _ _ _ h q => ha _ _ _ _ (fun x H1 q1 => ht _ _ _ _ (fun xs H2 q2 => h _ _ q2) q1) q
theorem mon_len {K : PySem.W.Frag} {t : TA} (ht : MonA t) : MonE (tCB (rLen K) t) := fun σ _ _ _ h q => ht _ _ _ _ (fun vs H1 ⟨p, ys, e, s, q1⟩ => ⟨p, ys, e, s, h _ _ q1⟩) q
theorem mon_test {a : TE} (ha : MonE a) : MonT (tTest a) := fun σ _ _ _ h q => ha _ _ _ _ (fun x H1 ⟨k, e, q1⟩ => ⟨k, e, h _ _ q1⟩) q
theorem mon_and {a b : TT} (ha : MonT a) (hb : MonT b) : MonT (tAnd a b) := fun σ _ _ _ h q => ha _ _ _ _ (fun c H1 q1 => by
  cases c with
  | true => exact hb _ _ _ _ h q1
  | false => exact h _ _ q1) q
theorem whileM {D : Ends} {σ : L2.St} {H : Hp} {c : TT} {tb : TS} (m : MonT c) (Pv : L2.St → Hp → Prop) (μ : L2.St → Hp → Nat) (h0 : Pv σ H)
    (hs : ∀ σ H, Pv σ H → c σ H fun b H1 => if b = true then tb { D with nx := fun σ' H' => Pv σ' H' ∧ μ σ' H' < μ σ H, ct := fun σ' H' => Pv σ' H' ∧ μ σ' H' < μ σ H, bk := D.nx } σ H1 else D.nx σ H1) : tWhile c tb D σ H := while_by Pv μ h0 hs m
/-! ### data compared: lists and tuples of numbers -/
open PyData in
theorem depthAll_ints : ∀ ns : List Int, depthAll (ns.map PyData.int) ≤ 1
  | [] => by simp [depthAll]
  | n :: ns => by
    have := depthAll_ints ns
    simp only [List.map_cons, depthAll, depth]
    omega
open PyData in
theorem canLay_ints : ∀ ns : List Int, canLayAll0 (ns.map PyData.int) = true
  | [] => rfl
  | n :: ns => by simp [canLayAll0, canLay0, canLay_ints ns]
theorem shaped_ints (ns : List Int) : SeqAt.shaped (.list (ns.map .int)) = true := by
  have h := depthAll_ints ns
  have e : (PyData.list (ns.map .int)).depth = PyData.depthAll (ns.map .int) + 1 := by rw [PyData.depth]
  exact Bool.and_eq_true_iff.mpr ⟨by rw [PyData.canLay0]; exact canLay_ints ns, decide_eq_true (by rw [e]; omega)⟩
theorem shaped_intsT (ns : List Int) : SeqAt.shaped (.tuple (ns.map .int)) = true := by
  have h := depthAll_ints ns
  have e : (PyData.tuple (ns.map .int)).depth = PyData.depthAll (ns.map .int) + 1 := by rw [PyData.depth]
  exact Bool.and_eq_true_iff.mpr ⟨by rw [PyData.canLay0]; exact canLay_ints ns, decide_eq_true (by rw [e]; omega)⟩
open PyData in
theorem eqvAll_ints : ∀ ns ms : List Int, eqvAll (ns.map PyData.int) (ms.map PyData.int) = decide (ns = ms)
  | [], [] => rfl
  | [], _ :: _ => by simp [eqvAll]
  | _ :: _, [] => by simp [eqvAll]
  | n :: ns, m :: ms => by
    simp only [List.map_cons, eqvAll, eqv, eqvAll_ints ns ms]
    by_cases h : n = m <;> by_cases h2 : ns = ms <;> simp [h, h2]
theorem eqv_intsL (ns ms : List Int) : PyData.eqv (.list (ns.map .int)) (.list (ms.map .int)) = decide (ns = ms) := by rw [PyData.eqv, eqvAll_ints]
theorem eqv_intsT (ns ms : List Int) : PyData.eqv (.tuple (ns.map .int)) (.tuple (ms.map .int)) = decide (ns = ms) := by rw [PyData.eqv, eqvAll_ints]
theorem dp_all_ints {K : PySem.W.Frag} {H : Hp} : ∀ ns : List Int, DpAll K H (ns.map V.int) (ns.map .int)
  | [] => .nil
  | n :: ns => .cons (.int n) (dp_all_ints ns)
theorem dp_ints {K : PySem.W.Frag} {H : Hp} {a : Addr} {ns : List Int} (h : SqL K H a (ns.map V.int)) : Dp K H (.ref a) (.list (ns.map .int)) := .lst h (dp_all_ints ns)
theorem dp_intsT {K : PySem.W.Frag} {H : Hp} {a : Addr} {ns : List Int} (h : SqT K H a (ns.map V.int)) : Dp K H (.ref a) (.tuple (ns.map .int)) := .tup h (dp_all_ints ns)
/-- two lists of numbers compared -/
theorem s_eqL {K : PySem.W.Frag} {H : Hp} {Q : VK} {a b : Addr} {ns ms : List Int} (h1 : SqL K H a (ns.map V.int)) (h2 : SqL K H b (ms.map V.int)) (q : Q (.bl (decide (ns = ms))) H) : rEqD K (.ref a) (.ref b) H Q :=
  s_eqD (dp_ints h1) (dp_ints h2) (shaped_ints _) (shaped_ints _) (by rw [eqv_intsL]; exact q)
theorem s_neL {K : PySem.W.Frag} {H : Hp} {Q : VK} {a b : Addr} {ns ms : List Int} (h1 : SqL K H a (ns.map V.int)) (h2 : SqL K H b (ms.map V.int)) (q : Q (.bl (!decide (ns = ms))) H) : rNeD K (.ref a) (.ref b) H Q :=
  ⟨_, _, dp_ints h1, dp_ints h2, shaped_ints _, shaped_ints _, by rw [eqv_intsL]; exact q⟩
theorem s_eqT {K : PySem.W.Frag} {H : Hp} {Q : VK} {a b : Addr} {ns ms : List Int} (h1 : SqT K H a (ns.map V.int)) (h2 : SqT K H b (ms.map V.int)) (q : Q (.bl (decide (ns = ms))) H) : rEqD K (.ref a) (.ref b) H Q :=
  s_eqD (dp_intsT h1) (dp_intsT h2) (shaped_intsT _) (shaped_intsT _) (by rw [eqv_intsT]; exact q)
theorem s_neT {K : PySem.W.Frag} {H : Hp} {Q : VK} {a b : Addr} {ns ms : List Int} (h1 : SqT K H a (ns.map V.int)) (h2 : SqT K H b (ms.map V.int)) (q : Q (.bl (!decide (ns = ms))) H) : rNeD K (.ref a) (.ref b) H Q :=
  ⟨_, _, dp_intsT h1, dp_intsT h2, shaped_intsT _, shaped_intsT _, by rw [eqv_intsT]; exact q⟩
theorem rep_int (n k : Nat) (b : Int) : (List.replicate n [V.int b]).flatten = (List.replicate n b).map V.int := by induction n <;> simp_all [List.replicate_succ]
theorem get_int {ns : List Int} {i : Nat} (h : i < ns.length) : (ns.map V.int)[i]? = some (V.int ns[i]) := by simp [h]
/-- what a call left behind: a new thing that stands still from now on -/
theorem Stp.got {S : Addr → Prop} {F H H' : Hp} {p : Addr} {o : HO} (h : Same F H) (s : Same H H') (hn : H p = none) (hp : H' p = some o) : Stp S F H (upd F p o) H' := by
  have fp : F p = none := h.free hn
  refine ⟨fun b u e => by rw [upd_ne (ne_of_none e fp)]; exact e, fun b u e => ?_, fun b u e => by rw [upd_ne (ne_of_none e hn)], fun b u _ e => s b u e, fun b u e => ⟨u, s b u e⟩⟩
  by_cases q : b = p
  · subst q; rw [upd_same] at e; cases e; exact hp
  · rw [upd_ne q] at e; exact s b u (h b u e)
open PyData in
theorem depthAll_bools : ∀ ns : List Bool, depthAll (ns.map PyData.bool) ≤ 1
  | [] => by simp [depthAll]
  | n :: ns => by
    have := depthAll_bools ns
    simp only [List.map_cons, depthAll, depth]
    omega
open PyData in
theorem canLay_bools : ∀ ns : List Bool, canLayAll0 (ns.map PyData.bool) = true
  | [] => rfl
  | n :: ns => by simp [canLayAll0, canLay0, canLay_bools ns]
theorem shaped_bools (ns : List Bool) : SeqAt.shaped (.list (ns.map .bool)) = true := by
  have h := depthAll_bools ns
  have e : (PyData.list (ns.map .bool)).depth = PyData.depthAll (ns.map .bool) + 1 := by rw [PyData.depth]
  exact Bool.and_eq_true_iff.mpr ⟨by rw [PyData.canLay0]; exact canLay_bools ns, decide_eq_true (by rw [e]; omega)⟩
open PyData in
theorem eqvAll_bools : ∀ ns ms : List Bool, eqvAll (ns.map PyData.bool) (ms.map PyData.bool) = decide (ns = ms)
  | [], [] => rfl
  | [], _ :: _ => by simp [eqvAll]
  | _ :: _, [] => by simp [eqvAll]
  | n :: ns, m :: ms => by
    simp only [List.map_cons, eqvAll, eqv, eqvAll_bools ns ms]
    by_cases h : n = m <;> by_cases h2 : ns = ms <;> simp [h, h2]
theorem eqv_boolsL (ns ms : List Bool) : PyData.eqv (.list (ns.map .bool)) (.list (ms.map .bool)) = decide (ns = ms) := by rw [PyData.eqv, eqvAll_bools]
theorem dp_all_bools {K : PySem.W.Frag} {H : Hp} : ∀ ns : List Bool, DpAll K H (ns.map V.bl) (ns.map .bool)
  | [] => .nil
  | n :: ns => .cons (.bl n) (dp_all_bools ns)
theorem dp_bools {K : PySem.W.Frag} {H : Hp} {a : Addr} {ns : List Bool} (h : SqL K H a (ns.map V.bl)) : Dp K H (.ref a) (.list (ns.map .bool)) := .lst h (dp_all_bools ns)
theorem s_neB {K : PySem.W.Frag} {H : Hp} {Q : VK} {a b : Addr} {ns ms : List Bool} (h1 : SqL K H a (ns.map V.bl)) (h2 : SqL K H b (ms.map V.bl)) (q : Q (.bl (!decide (ns = ms))) H) : rNeD K (.ref a) (.ref b) H Q :=
  ⟨_, _, dp_bools h1, dp_bools h2, shaped_bools _, shaped_bools _, by rw [eqv_boolsL]; exact q⟩
theorem eqV_int (i j : Int) : eqV (.int i) (.int j) = decide (i = j) := by
  show (i == j) = decide (i = j)
  by_cases h : i = j <;> simp [h]
theorem inV_ints (x : Int) (ns : List Int) : inV (.int x) (ns.map V.int) = decide (x ∈ ns) := by
  unfold inV
  induction ns with
  | nil => simp
  | cons n ns ih =>
    rw [List.map_cons, List.any_cons, ih, eqV_int]
    by_cases h : n = x
    · subst h; simp
    · by_cases h2 : x ∈ ns
      · simp [h2]
      · have : ¬ x = n := fun z => h z.symm
        simp [h, h2, this]
theorem flat_ints (ns : List Int) : (ns.map V.int).all flatV = true := by
  rw [List.all_eq_true]; intro v hv
  obtain ⟨n, _, rfl⟩ := List.mem_map.mp hv
  rfl
/-- a number in a list of numbers -/
theorem s_inI {K : PySem.W.Frag} {H : Hp} {Q : VK} {a : Addr} {ns : List Int} {x : Int} (h : SqL K H a (ns.map V.int)) (q : Q (.bl (decide (x ∈ ns))) H) : rIn K false (.int x) (.ref a) H Q :=
  ⟨a, _, rfl, .inl h, rfl, flat_ints ns, by rw [if_neg (by decide), inV_ints]; exact q⟩
theorem cutV_nat (xs : List V) (i j : Nat) : cutV xs (some (i : Int)) (some (j : Int)) = (xs.drop i).take (j - i) := by
  unfold cutV
  rw [HT.sIx_nat, HT.sIx_nat]
  by_cases h : i ≤ xs.length
  · rw [Nat.min_eq_left h]
    by_cases h2 : j ≤ xs.length
    · rw [Nat.min_eq_left h2]
    · rw [Nat.min_eq_right (by omega), List.take_of_length_le (by simp), List.take_of_length_le (by simp; omega)]
  · rw [Nat.min_eq_right (show xs.length ≤ i by omega), List.drop_of_length_le (Nat.le_refl _), List.drop_of_length_le (by omega)]; simp
theorem cutV_from (xs : List V) (i : Nat) : cutV xs (some (i : Int)) none = xs.drop i := by
  unfold cutV
  rw [HT.sIx_nat, HT.sIx_none]
  by_cases h : i ≤ xs.length
  · rw [Nat.min_eq_left h, List.take_of_length_le (by simp)]
  · rw [Nat.min_eq_right (by omega), List.drop_of_length_le (by omega), List.drop_of_length_le (by omega)]; simp
theorem cutV_to (xs : List V) (j : Nat) : cutV xs none (some (j : Int)) = xs.take j := by
  unfold cutV
  rw [HT.sIx_nat, HT.sIx_none]
  by_cases h2 : j ≤ xs.length
  · rw [Nat.min_eq_left h2]; simp
  · rw [Nat.min_eq_right (by omega), List.take_of_length_le (by simp), List.take_of_length_le (by omega)]; simp
/-- values without parts, as data -/
def toD : V → PyData
  | .bl b => .bool b
  | .int i => .int i
  | .str s => .str s
  | _ => .none
def flatW (v : V) : Bool := match v with
  | .non => true
  | .bl _ => true
  | .int _ => true
  | .str s => PyData.strOk s
  | _ => false
theorem dp_flat {K : PySem.W.Frag} {H : Hp} {v : V} (h : flatW v = true) : Dp K H v (toD v) := by
  cases v with
  | non => exact .non
  | bl b => exact .bl b
  | int i => exact .int i
  | str s => exact .str s
  | _ => cases h
theorem dp_flats {K : PySem.W.Frag} {H : Hp} : ∀ {vs : List V}, vs.all flatW = true → DpAll K H vs (vs.map toD)
  | [], _ => .nil
  | v :: vs, h => by
    rw [List.all_cons, Bool.and_eq_true] at h
    exact .cons (dp_flat h.1) (dp_flats h.2)
open PyData in
theorem depthAll_flat : ∀ vs : List V, depthAll (vs.map toD) ≤ 1
  | [] => by simp [depthAll]
  | n :: ns => by
    have := depthAll_flat ns
    have e : depth (toD n) = 0 := by cases n <;> simp [toD, depth]
    simp only [List.map_cons, depthAll, e]
    omega
open PyData in
theorem canLay_flat : ∀ vs : List V, vs.all flatW = true → canLayAll0 (vs.map toD) = true
  | [], _ => rfl
  | n :: ns, h => by
    rw [List.all_cons, Bool.and_eq_true] at h
    have e : canLay0 (toD n) = true := by
      cases n with
      | str s => exact h.1
      | _ => rfl
    simp [canLayAll0, e, canLay_flat ns h.2]
theorem shaped_flatT {vs : List V} (h : vs.all flatW = true) : SeqAt.shaped (.tuple (vs.map toD)) = true := by
  have h1 := depthAll_flat vs
  have e : (PyData.tuple (vs.map toD)).depth = PyData.depthAll (vs.map toD) + 1 := by rw [PyData.depth]
  exact Bool.and_eq_true_iff.mpr ⟨by rw [PyData.canLay0]; exact canLay_flat vs h, decide_eq_true (by rw [e]; omega)⟩
/-- two equal tuples compared -/
theorem s_neTs {K : PySem.W.Frag} {H : Hp} {Q : VK} {a b : Addr} {vs : List V} (h1 : SqT K H a vs) (h2 : SqT K H b vs) (f : vs.all flatW = true) (q : Q (.bl false) H) : rNeD K (.ref a) (.ref b) H Q :=
  ⟨_, _, .tup h1 (dp_flats f), .tup h2 (dp_flats f), shaped_flatT f, shaped_flatT f, by rw [SeqAt.eqv_refl _ (SeqAt.canLay_of_shaped (shaped_flatT f))]; exact q⟩
theorem s_eqTs {K : PySem.W.Frag} {H : Hp} {Q : VK} {a b : Addr} {vs : List V} (h1 : SqT K H a vs) (h2 : SqT K H b vs) (f : vs.all flatW = true) (q : Q (.bl true) H) : rEqD K (.ref a) (.ref b) H Q :=
  ⟨_, _, .tup h1 (dp_flats f), .tup h2 (dp_flats f), shaped_flatT f, shaped_flatT f, by rw [SeqAt.eqv_refl _ (SeqAt.canLay_of_shaped (shaped_flatT f))]; exact q⟩
/-- a written list of one thing, so many times -/
theorem s_rep {H : Hp} {Q : VK} {l : Addr} {v : V} {k : Int} (h : H l = some (.lst [v])) (k1 : k ≤ 100000) (k0 : -100000 ≤ k) (q : ∀ p, H p = none → Q (.ref p) (upd H p (.lst (List.replicate k.toNat v)))) : rRep (.ref l) (.int k) H Q := by
  have e : (List.replicate k.toNat [v]).flatten = List.replicate k.toNat v := by
    generalize k.toNat = n
    induction n with
    | zero => rfl
    | succ n ih => rw [List.replicate_succ, List.flatten_cons, ih]; rfl
  have hz : 1 * k.toNat ≤ sizeLine := by rw [Nat.one_mul]; exact sz (by omega)
  exact ⟨l, k, [v], rfl, rfl, h, by omega, by omega, hz, fun p hp => by rw [e]; exact q p hp⟩
/-- lists of lists of numbers -/
def RowV (K : PySem.W.Frag) (H : Hp) (v : V) (l : List Int) : Prop := ∃ a, v = .ref a ∧ SqL K H a (l.map V.int)
inductive RowsV (K : PySem.W.Frag) (H : Hp) : List V → List (List Int) → Prop
  | nil : RowsV K H [] []
  | cons {v : V} {vs : List V} {l : List Int} {ls : List (List Int)} : RowV K H v l → RowsV K H vs ls → RowsV K H (v :: vs) (l :: ls)
theorem RowsV.dp {K : PySem.W.Frag} {H : Hp} : ∀ {vs : List V} {ls : List (List Int)}, RowsV K H vs ls → DpAll K H vs (ls.map fun l => .list (l.map .int))
  | _, _, .nil => .nil
  | _, _, .cons ⟨a, e, h⟩ r => .cons (e ▸ dp_ints h) r.dp
open PyData in
theorem depthAll_rows : ∀ ls : List (List Int), depthAll (ls.map fun l => PyData.list (l.map .int)) ≤ 2
  | [] => by simp [depthAll]
  | l :: ls => by
    have h1 := depthAll_rows ls
    have h2 := depthAll_ints l
    simp only [List.map_cons, depthAll, depth]
    omega
open PyData in
theorem canLay_rows : ∀ ls : List (List Int), canLayAll0 (ls.map fun l => PyData.list (l.map .int)) = true
  | [] => rfl
  | l :: ls => by simp [canLayAll0, canLay0, canLay_ints, canLay_rows ls]
theorem shaped_rows (ls : List (List Int)) : SeqAt.shaped (.list (ls.map fun l => .list (l.map .int))) = true := by
  have h := depthAll_rows ls
  have e : (PyData.list (ls.map fun l => PyData.list (l.map .int))).depth = PyData.depthAll (ls.map fun l => PyData.list (l.map .int)) + 1 := by rw [PyData.depth]
  exact Bool.and_eq_true_iff.mpr ⟨by rw [PyData.canLay0]; exact canLay_rows ls, decide_eq_true (by rw [e]; omega)⟩
theorem s_eqRows {K : PySem.W.Frag} {H : Hp} {Q : VK} {a b : Addr} {xs ys : List V} {ls : List (List Int)} (h1 : SqL K H a xs) (h2 : SqL K H b ys) (r1 : RowsV K H xs ls) (r2 : RowsV K H ys ls) (q : Q (.bl true) H) : rEqD K (.ref a) (.ref b) H Q :=
  s_eqD (.lst h1 r1.dp) (.lst h2 r2.dp) (shaped_rows ls) (shaped_rows ls) (by rw [SeqAt.eqv_refl _ (SeqAt.canLay_of_shaped (shaped_rows ls))]; exact q)
theorem s_neRows {K : PySem.W.Frag} {H : Hp} {Q : VK} {a b : Addr} {xs ys : List V} {ls : List (List Int)} (h1 : SqL K H a xs) (h2 : SqL K H b ys) (r1 : RowsV K H xs ls) (r2 : RowsV K H ys ls) (q : Q (.bl false) H) : rNeD K (.ref a) (.ref b) H Q :=
  ⟨_, _, .lst h1 r1.dp, .lst h2 r2.dp, shaped_rows ls, shaped_rows ls, by rw [SeqAt.eqv_refl _ (SeqAt.canLay_of_shaped (shaped_rows ls))]; exact q⟩
/-- lists of flat tuples -/
def TupV (K : PySem.W.Frag) (H : Hp) (v : V) (l : List V) : Prop := ∃ a, v = .ref a ∧ SqT K H a l ∧ l.all flatW = true
inductive TupsV (K : PySem.W.Frag) (H : Hp) : List V → List (List V) → Prop
  | nil : TupsV K H [] []
  | cons {v : V} {vs : List V} {l : List V} {ls : List (List V)} : TupV K H v l → TupsV K H vs ls → TupsV K H (v :: vs) (l :: ls)
theorem TupsV.dp {K : PySem.W.Frag} {H : Hp} : ∀ {vs : List V} {ls : List (List V)}, TupsV K H vs ls → DpAll K H vs (ls.map fun l => .tuple (l.map toD))
  | _, _, .nil => .nil
  | _, _, .cons ⟨_, e, h, f⟩ r => .cons (e ▸ .tup h (dp_flats f)) r.dp
open PyData in
theorem depthAll_tups : ∀ ls : List (List V), depthAll (ls.map fun l => PyData.tuple (l.map toD)) ≤ 2
  | [] => by simp [depthAll]
  | l :: ls => by
    have h1 := depthAll_tups ls
    have h2 := depthAll_flat l
    simp only [List.map_cons, depthAll, depth]
    omega
open PyData in
theorem canLay_tups {K : PySem.W.Frag} {H : Hp} : ∀ {vs : List V} {ls : List (List V)}, TupsV K H vs ls → canLayAll0 (ls.map fun l => PyData.tuple (l.map toD)) = true
  | _, _, .nil => rfl
  | _, _, .cons ⟨_, _, _, f⟩ r => by simp [canLayAll0, canLay0, canLay_flat _ f, canLay_tups r]
theorem shaped_tups {K : PySem.W.Frag} {H : Hp} {vs : List V} {ls : List (List V)} (r : TupsV K H vs ls) : SeqAt.shaped (.list (ls.map fun l => .tuple (l.map toD))) = true := by
  have h := depthAll_tups ls
  have e : (PyData.list (ls.map fun l => PyData.tuple (l.map toD))).depth = PyData.depthAll (ls.map fun l => PyData.tuple (l.map toD)) + 1 := by rw [PyData.depth]
  exact Bool.and_eq_true_iff.mpr ⟨by rw [PyData.canLay0]; exact canLay_tups r, decide_eq_true (by rw [e]; omega)⟩
theorem s_eqTups {K : PySem.W.Frag} {H : Hp} {Q : VK} {a b : Addr} {xs ys : List V} {ls : List (List V)} (h1 : SqL K H a xs) (h2 : SqL K H b ys) (r1 : TupsV K H xs ls) (r2 : TupsV K H ys ls) (q : Q (.bl true) H) : rEqD K (.ref a) (.ref b) H Q :=
  s_eqD (.lst h1 r1.dp) (.lst h2 r2.dp) (shaped_tups r1) (shaped_tups r2) (by rw [SeqAt.eqv_refl _ (SeqAt.canLay_of_shaped (shaped_tups r1))]; exact q)
theorem s_neTups {K : PySem.W.Frag} {H : Hp} {Q : VK} {a b : Addr} {xs ys : List V} {ls : List (List V)} (h1 : SqL K H a xs) (h2 : SqL K H b ys) (r1 : TupsV K H xs ls) (r2 : TupsV K H ys ls) (q : Q (.bl false) H) : rNeD K (.ref a) (.ref b) H Q :=
  ⟨_, _, .lst h1 r1.dp, .lst h2 r2.dp, shaped_tups r1, shaped_tups r2, by rw [SeqAt.eqv_refl _ (SeqAt.canLay_of_shaped (shaped_tups r1))]; exact q⟩
/-! ### a list to draw from: [a great number, a number that is stirred] -/
def Src (F H : Hp) (p : Addr) : Prop := Same F H ∧ F p = none ∧ ∃ a b : Int, H p = some (.lst [.int a, .int b]) ∧ 0 ≤ b ∧ b < 2147483647
theorem Src.of {F H H' : Hp} {p : Addr} (h : Src F H p) (s : Same H H') : Src F H' p := let ⟨a, b, x, y, e, z⟩ := h; ⟨a.trans s, b, x, y, s _ _ e, z⟩
theorem Src.wr {F H : Hp} {p : Addr} {x y : Int} (h : Src F H p) (y0 : 0 ≤ y) (y1 : y < 2147483647) : Src F (upd H p (.lst [.int x, .int y])) p :=
  ⟨(Stp.wr (S := S1 p) h.1 rfl h.2.1).fh, h.2.1, x, y, upd_same, y0, y1⟩
theorem Src.weak {F F' H : Hp} {p : Addr} (h : Src F' H p) (s : Same F F') : Src F H p := let ⟨a, b, x⟩ := h; ⟨s.trans a, s.free b, x⟩
theorem Src.new {F H : Hp} {p q : Addr} {o : HO} (h : Src F H p) (hq : H q = none) : Src (upd F q o) (upd H q o) p := by
  obtain ⟨a, b, x, y, e, z⟩ := h
  have n : p ≠ q := ne_of_none e hq
  exact ⟨(Stp.new (S := S0) a hq).fh, by rw [upd_ne n]; exact b, x, y, by rw [upd_ne n]; exact e, z⟩
/-- a cell beside it is written -/
theorem Src.upd {F H : Hp} {p q : Addr} {o : HO} (h : Src F H p) (n : q ≠ p) (fq : F q = none) : Src F (upd H q o) p := by
  obtain ⟨a, b, x, y, e, z⟩ := h
  exact ⟨(Stp.wr (S := S1 q) a rfl fq).fh, b, x, y, by rw [upd_ne n.symm]; exact e, z⟩
theorem Src.dom {F H : Hp} {p : Addr} (h : Src F H p) : ∃ o, H p = some o := let ⟨_, _, x, y, e, _⟩ := h; ⟨_, e⟩
theorem Src.frz {F H : Hp} {p d : Addr} {o : HO} (h : Src F H p) (n : p ≠ d) (fh : Same (L2.upd F d o) H) : Src (L2.upd F d o) H p := by
  obtain ⟨a, b, x, y, e, z⟩ := h
  exact ⟨fh, by rw [upd_ne n]; exact b, x, y, e, z⟩
theorem Src.ne {F H : Hp} {p d : Addr} (h : Src F H p) (hd : H d = none) : p ≠ d := by
  obtain ⟨o, e⟩ := h.dom
  exact ne_of_none e hd
/-- behind a draw: what stands beside the cell is as it was -/
def Drawn (p : Addr) (F H H' : Hp) : Prop := Src F H' p ∧ Stp (S1 p) F H F H'
section ExcS
open PyProof.Rows
/-! ### own exception classes -/
def exA (mg : Str → Option Value) (x : Str) : Addr := match mg x with
  | some (.ref a) => a
  | _ => 0
theorem exA_of {mg : Str → Option Value} {x : Str} {a : Addr} (h : mg x = some (.ref a)) : exA mg x = a := by unfold exA; rw [h]
structure ExF (K : PySem.W.Frag) (mg : Str → Option Value) (nm : Str) : Prop where
  g : mg nm = some (.ref (exA mg nm))
  x : PySem.W.excIn K (exA mg nm) [.type "ValueError", .type "Exception", .type "BaseException", .type "object"] "ValueError.__new__" = true
  k : PySem.W.keepIn K (.ref (exA mg nm)) = true
  b : PySem.W.subIn K (.ref (exA mg nm)) (.type "BaseException") = some true
  t : PySem.W.typeIn K (.ref (exA mg nm)) = some (.type "type")
  c : ExcC K (exA mg nm)
theorem ExF.mk' {K : PySem.W.Frag} {mg : Str → Option Value} {nm : Str} {C : Addr} (g : mg nm = some (.ref C))
    (x : PySem.W.excIn K C [.type "ValueError", .type "Exception", .type "BaseException", .type "object"] "ValueError.__new__" = true) (k : PySem.W.keepIn K (.ref C) = true)
    (b : PySem.W.subIn K (.ref C) (.type "BaseException") = some true) (t : PySem.W.typeIn K (.ref C) = some (.type "type"))
    (hg : PySem.W.findIn K (.ref C) "__getattribute__" = some (some (.builtin "BaseException.__getattribute__")))
    (hk : PySem.W.findIn K (.ref C) "__getattr__" = some none)
    (hd : PySem.W.hasDictIn K C = true)
    (ha : PySem.W.findIn K (.ref C) "__class__" = some (some (.builtin "object.__class__")))
    (hn : PySem.W.specialIn K (.builtin "object.__class__") "__get__" = some (some (.builtin "getset_descriptor.__get__")))
    (ht : PySem.W.takesIn K (.builtin "object.__class__") = some true)
    (hm : PySem.W.mroIn K C (.type "object") = some true) : ExF K mg nm := by
  have e := exA_of g
  exact ⟨by rw [e]; exact g, by rw [e]; exact x, by rw [e]; exact k, by rw [e]; exact b, by rw [e]; exact t, by rw [e]; exact ⟨hg, hk, b, hd, ha, hn, ht, hm⟩⟩
theorem ExF.exm {K : PySem.W.Frag} {mg : Str → Option Value} {nm : Str} (h : ExF K mg nm) {cls : Value} {b : Bool} (s : PySem.W.subIn K cls (.ref (exA mg nm)) = some b) : PySem.W.exmOne K cls (.ref (exA mg nm)) = some b := PySem.W.exm_ref h.b h.c.hd h.t s
section
variable {X : Cx} {C : Addr} {bmB : List Value} {B newId initId : String}
open PySem.W in
/-- isinstance against an own class, by the order of the classes -/
theorem kit_own {K : Frag} {a C : Addr} {b : Bool} (hd : hasDictIn K C = true) (ht : typeIn K (.ref C) = some (.type "type")) (h : subIn K (.ref a) (.ref C) = some b) (s : subIn K (.ref a) (.ref a) = some true) : kitOne K (.ref a) (.ref C) = some b := by
  obtain ⟨cd, hc, _⟩ := any_some hd
  have e2 : ((clsIn K C).isSome && typeIn K (.ref C) == some (.type "type")) = true := by rw [hc, ht]; rfl
  unfold kitOne
  by_cases q : a = C
  · subst q
    rw [if_pos (by simp), ← h, s]
  · rw [if_neg (by simpa using q)]
    show (if ((clsIn K C).isSome && typeIn K (.ref C) == some (.type "type")) = true then subIn K (.ref a) (.ref C) else none) = some b
    rw [if_pos e2, h]
open PySem.W in
theorem kit_val {K : Frag} {a : Addr} (h : subIn K (.ref a) (.type "ValueError") = some true) : kitOne K (.ref a) (.type "ValueError") = some true := by
  unfold kitOne
  rw [if_neg (by simp)]
  show (if kitMeta "ValueError" = true then subIn K (.ref a) (.type "ValueError") else none) = some true
  rw [if_pos (by decide +kernel), h]
/-- X() -/
theorem pmk_own0 {x : Str} {p pos : Pos} (F : ExcBaseFacts B newId initId bmB) (q : PySem.W.excIn X.K C bmB newId = true) (gC : X.mg x = some (.ref C)) (kC : PySem.W.keepIn X.K (.ref C) = true) (r : Raises X (.ref C)) (hg : Gl X x)
    (hdb : (x == ("__debug__" : Str)) = false := by decide) : PMk X (.Call (.Name x p) [] [] pos) (fun _ H Q => Q (.ref C) none H) := by
  intro pins s σ H Q I h
  refine wpAny_Call_Name_kw (ld_glob I hg gC ?_ hdb)
  refine PySem.W.callWith_K0 I.kIn kC ?_
  obtain ⟨bm, N, nm, qn, bs, hdct, sn, sub, ab, col, dd, k0, k1, k2, k3, k5, mN, hC, hN, hni, T⟩ := exc_obj I.kIn q
  exact wpAny_call_exc_subT F T hC hN hni (fun h' e hm => mk_of I hm r h (I.hok.gone hm.new)) (Nat.zero_le _)
end
/-- isinstance(e, c) in an except suite: e's class is known in the reading -/
def rIsX (K : PySem.W.Frag) (a : Addr) (cls : Value) (d : Option Addr) : List V → Hp → VK → Prop := fun xs H Q => ∃ D, cls = .ref D ∧ d = none ∧ ExcC K D ∧ rIsE K D a xs H Q
theorem call_isX {X : Cx} (K : PySem.W.Frag) (eK : X.K = K) {a : Addr} {cls : Value} {d : Option Addr} {oe : Obj} {pn : List (Addr × Obj)} (hz : Zc cls d oe) (hf : ∃ vs, oe.data = .fields vs) : CallR (X.suite a ((a, oe) :: pn)) (.builtin "isinstance") (rIsX K a cls d) := by
  subst eK
  intro pins s σ H vs us Q I r h
  obtain ⟨D, rfl, rfl, C, q⟩ := h
  exact call_isE C hz hf pins s σ H vs us Q I r q
theorem s_isX {K : PySem.W.Frag} {a D C : Addr} {b : Bool} {H : Hp} {Q : VK} (c : ExcC K D) (k : PySem.W.kitOne K (.ref D) (.ref C) = some b) (q : Q (.bl b) H) : rIsX K a (.ref D) none [.ref a, .ref C] H Q :=
  ⟨D, rfl, rfl, c, .ref C, .ref C, b, rfl, fun _ r => r, k, q⟩
theorem s_isXt {K : PySem.W.Frag} {a D : Addr} {n : String} {b : Bool} {H : Hp} {Q : VK} (c : ExcC K D) (k : PySem.W.kitOne K (.ref D) (.type n) = some b) (q : Q (.bl b) H) : rIsX K a (.ref D) none [.ref a, .ty n] H Q :=
  ⟨D, rfl, rfl, c, .ty n, .type n, b, rfl, fun _ r => r, k, q⟩
theorem s_callS {sp : Sp} {E : L2.St → XK} {t : TA} {σ : L2.St} {H : Hp} {Q : VK} (h : t σ H fun vs H1 => sp vs H1 Q (E σ)) : tCallS sp E t σ H Q := h
theorem cx_none {P : Program} {w : World} {H : Hp} {s : Shared} {e : Value} {s' : Shared} (h : L2.CX P w [] H s (fun _ _ _ => False) e s') : False := by
  obtain ⟨_, _, _, _, _, _, _, _, _, _, _, _, z⟩ := h
  exact z
end ExcS
/-! ### several clauses behind a try, each with a name or without -/
section HandsS
open PySem.Spec PyProof.Rows
def goneD (i : Nat) (D : Ends) : Ends := ⟨fun σ H => D.nx (σ.set i none) H, D.rt, fun σ H => D.bk (σ.set i none) H, fun σ H => D.ct (σ.set i none) H⟩
/-- what the clauses want of an error: the first whose class fits takes it -/
def wH (K : PySem.W.Frag) (out : WX) (D : Ends) : List (Value × Option Nat × (Addr → Value → Option Addr → TS)) → WX
  | [] => out
  | (c, none, ts) :: r => fun cls d σ H => ∃ b, PySem.W.exmOne K cls c = some b ∧ (b = true → ∀ a, H a = none → ts a cls d D σ H) ∧ (b = false → wH K out D r cls d σ H)
  | (c, some i, ts) :: r => fun cls d σ H => ∃ b, PySem.W.exmOne K cls c = some b ∧ (b = true → ∀ a, H a = none → ts a cls d (goneD i D) (σ.set i (some (.ref a))) H) ∧ (b = false → wH K out D r cls d σ H)
inductive HOks (X : Cx) : List ExceptHandler → List (Value × Option Nat × (Addr → Value → Option Addr → TS)) → Prop
  | nil : HOks X [] []
  | anon {x : Str} {c : Value} {ts : Addr → Value → Option Addr → TS} {b₀ : Stmt} {suite : List Stmt} {np pos : Pos} {hds : List ExceptHandler} {l : List (Value × Option Nat × (Addr → Value → Option Addr → TS))} (hc : Names X x c)
      (hsu : ∀ (a : Addr) (oe : Obj) (cls : Value) (d : Option Addr) (pn : List (Addr × Obj)), Zc cls d oe → (∃ vs, oe.data = .fields vs) → PSs (X.suite a ((a, oe) :: pn)) (b₀ :: suite) (ts a cls d)) (r : HOks X hds l) :
      HOks X (.ExceptHandler (some (.Name x np)) none (b₀ :: suite) pos :: hds) ((c, none, ts) :: l)
  | named {x n : Str} {i : Nat} {c : Value} {ts : Addr → Value → Option Addr → TS} {b₀ : Stmt} {suite : List Stmt} {np pos : Pos} {hds : List ExceptHandler} {l : List (Value × Option Nat × (Addr → Value → Option Addr → TS))}
      (hi : X.N[i]? = some n) (hln : X.env.kindOf n = some .local) (hc : Names X x c)
      (hsu : ∀ (a : Addr) (oe : Obj) (cls : Value) (d : Option Addr) (pn : List (Addr × Obj)), Zc cls d oe → (∃ vs, oe.data = .fields vs) → PSs (X.suite a ((a, oe) :: pn)) (b₀ :: suite) (ts a cls d)) (r : HOks X hds l) :
      HOks X (.ExceptHandler (some (.Name x np)) (some n) (b₀ :: suite) pos :: hds) ((c, some i, ts) :: l)
/-- an error that has come down to the frame of a try -/
structure Down (X : Cx) (pins : List (Addr × Obj)) (σ : L2.St) (H : Hp) (cls : Value) (d : Option Addr) (a : Addr) (B : Heap) (sI s : Shared) : Prop where
  at0 : L2.Inv X pins σ H sI
  nb : ∀ (b : Addr) (o : Obj), sI.heap.get? b = some o → ¬ b ∈ frs X.stack → B.get? b = some o
  up : sI.heap.UpToSlots s.heap
  os : s.os = sI.os
  ag : AllBare s.gens
  na : H a = none
  fl : HandSPX.FlyingZ B (X.env :: X.outer) a (Zc cls d) s.heap
variable {X : Cx} {pins : List (Addr × Obj)} {σ : L2.St} {H : Hp} {cls : Value} {d : Option Addr} {a : Addr} {B : Heap} {sI s : Shared}
theorem Down.inv (D : Down X pins σ H cls d a B sI s) : L2.Inv X pins σ H s := D.at0.landed D.nb D.fl.1 D.up D.os D.ag
theorem Down.obj (D : Down X pins σ H cls d a B sI s) (hf : X.env.frame = some X.env.locals) :
    ∃ oe vs, s.heap.get? a = some oe ∧ Zc cls d oe ∧ oe.data = Data.fields vs ∧ L2.Inv (X.suite a ((a, oe) :: (X.pn ++ pins))) [] σ H s := by
  obtain ⟨oe, vs, e, z, dd⟩ := D.fl.there
  have off : a ∉ frs (X.env :: X.outer) := fun hm => by
    obtain ⟨_, o, e', no⟩ := D.fl.2.2.1.mem hm
    rw [e] at e'
    exact no vs ((Option.some.inj e') ▸ dd)
  have n1 : a ≠ X.env.locals := fun z => off (List.mem_filterMap.mpr ⟨X.env, by simp, by rw [hf, z]⟩)
  have n2 : a ∉ X.fs := fun hm => off (by
    obtain ⟨v, hv, q⟩ := List.mem_filterMap.mp hm
    exact List.mem_filterMap.mpr ⟨v, by simp [hv], q⟩)
  exact ⟨oe, vs, e, z, dd, D.inv.suite e dd D.na n1 n2⟩
theorem Down.next (D : Down X pins σ H cls d a B sI s) {h' : Heap} (f : HandSPX.FlyingZ B (X.env :: X.outer) a (Zc cls d) h') (u : s.heap.UpToSlots h') : Down X pins σ H cls d a B sI { s with heap := h' } :=
  ⟨D.at0, D.nb, D.up.trans u, D.os, D.ag, D.na, f⟩
theorem Down.hands (D : Down X pins σ H cls d a B sI s) {W : WX} {E : Ends} (hs : X.stack = X.env :: X.outer) (hf : X.env.frame = some X.env.locals) (hN : X.N.Nodup) (tk : Takes X W) (ok : X.Ok) {hds : List ExceptHandler} {l : List (Value × Option Nat × (Addr → Value → Option Addr → TS))}
    (hh : HOks X hds l) (w : wH X.K W E l cls d σ H) : wpAny (model X.prog X.w) X.A (handleBy (.ref a) X.env hds) (SP X pins E) X.xe s := by
  induction hh with
  | nil =>
    refine wpAny_handleBy_nil ?_
    obtain ⟨_, _, _, oe, vs, T, oT, ts, he, _, hd, h1, _⟩ := id D.fl
    unfold PySem.passOn
    refine wpAny_bind (wpAny_field he hd h1 ?_)
    rw [if_neg (show ¬ ((Value.ref T == Value.none) = true) from by simp)]
    have out : wpAny (model X.prog X.w) X.A (setFlight (.ref a) X.env.frame) (fun _ s4 => wpAny (model X.prog X.w) X.A (throw (.ref a) : Sem Flow) (SP X pins E) X.xe s4) X.xe s := by
      rw [hf]
      exact HandSPX.setFlight_upZ D.fl fun h4 hh4 u4 => wpAny_throw (tk _ _ ⟨a, B, sI, pins, σ, H, cls, d, rfl, D.at0, D.nb, D.up.trans u4, .inr (.inr (by rw [hs]; exact hh4)), D.na, D.os, D.ag, w⟩)
    first
      | exact wpAny_bind (wpAny_pure (wpAny_bind out))
      | exact wpAny_bind out
  | @anon x c ts b₀ suite np pos hds l hc hsu r ih =>
    obtain ⟨b, e1, yes, no⟩ := w
    obtain ⟨oe, vs, he, hz, _, S⟩ := D.obj hf
    refine wpAny_handleBy_cons (codeAny_handlers_test ?_) (by intro q; cases q)
    have ty : PySem.W.Looks (model X.prog X.w) s.heap (typeOf (.ref a)) cls := fun _ _ _ _ k q => wpAny_typeOf_ref (k _ _ he) (by rw [hz.1]; exact q)
    have fits := PySem.W.exm_one (M := model X.prog X.w) D.inv.kIn ty e1
    have name : ∀ {Q E : Value → Shared → Prop}, Q c s → wpAny (model X.prog X.w) (X.A.mark (some (.ref a))) (eval (.Name x np) X.env) Q E s := fun {Q E} q => by
      obtain ⟨g1, g2, g3 | ⟨g3, g4, g5⟩⟩ := hc
      · exact ld_glob (X := X.suite a ((a, oe) :: (X.pn ++ pins))) S g1 g3 q g2
      · exact ld_blt (X := X.suite a ((a, oe) :: (X.pn ++ pins))) S g1 g3 g4 q g5 g2
    refine name (fits.here ?_)
    cases b with
    | false => exact ih (no rfl)
    | true =>
      refine codeAny_handlers_suite (HandSPX.lands_againZ D.fl fun h4 f4 u4 => ?_)
      obtain ⟨oe4, vs4, _, z4, d4, S4⟩ := (D.next f4 u4).obj hf
      refine wpAny_mono ((hsu a oe4 cls d (X.pn ++ pins) z4 ⟨_, d4⟩).run [] _ σ H E S4 (yes rfl a D.na)) (fun f s6 q => ?_) fun _ _ z => z.elim
      cases f with
      | ret u =>
        obtain ⟨v6, σ6, H6, S6, r6, q6⟩ := q
        exact ⟨v6, σ6, H6, S6.unsuite ok, r6, q6⟩
      | _ =>
        obtain ⟨σ6, H6, S6, q6⟩ := q
        exact ⟨σ6, H6, S6.unsuite ok, q6⟩
  | @named x n i c ts b₀ suite np pos hds l hi hln hc hsu r ih =>
    obtain ⟨b, e1, yes, no⟩ := w
    obtain ⟨oe, vs, he, hz, _, S⟩ := D.obj hf
    refine wpAny_handleBy_cons (codeAny_handlers_test ?_) (by intro q; cases q)
    have ty : PySem.W.Looks (model X.prog X.w) s.heap (typeOf (.ref a)) cls := fun _ _ _ _ k q => wpAny_typeOf_ref (k _ _ he) (by rw [hz.1]; exact q)
    have fits := PySem.W.exm_one (M := model X.prog X.w) D.inv.kIn ty e1
    have name : ∀ {Q E : Value → Shared → Prop}, Q c s → wpAny (model X.prog X.w) (X.A.mark (some (.ref a))) (eval (.Name x np) X.env) Q E s := fun {Q E} q => by
      obtain ⟨g1, g2, g3 | ⟨g3, g4, g5⟩⟩ := hc
      · exact ld_glob (X := X.suite a ((a, oe) :: (X.pn ++ pins))) S g1 g3 q g2
      · exact ld_blt (X := X.suite a ((a, oe) :: (X.pn ++ pins))) S g1 g3 g4 q g5 g2
    refine name (fits.here ?_)
    cases b with
    | false => exact ih (no rfl)
    | true =>
      refine codeAny_handlers_suite_as (HandSPX.lands_againZ D.fl fun h4 f4 u4 => ?_)
      obtain ⟨oe4, vs4, _, z4, d4, S4⟩ := (D.next f4 u4).obj hf
      refine store_ok (X := X.suite a ((a, oe4) :: (X.pn ++ pins))) (v := .ref a) S4 hN hi (.inl hln) rfl (fun s5 S5 => ?_) (.inr hln)
      refine wpAny_mono ((hsu a oe4 cls d (X.pn ++ pins) z4 ⟨_, d4⟩).run [] s5 _ H (goneD i E) S5 (yes rfl a D.na)) (fun f s6 q => ?_) fun _ _ z => z.elim
      cases f with
      | ret u =>
        obtain ⟨v6, σ6, H6, S6, r6, q6⟩ := q
        exact gone_ok (S6.unsuite ok) hN hi hln fun s7 J7 => ⟨_, _, _, J7, r6, q6⟩
      | _ =>
        obtain ⟨σ6, H6, S6, q6⟩ := q
        exact gone_ok (S6.unsuite ok) hN hi hln fun s7 J7 => ⟨_, _, J7, q6⟩
/-- try: body, then clauses with names or without -/
theorem ps_tryH {body : List Stmt} {h₀ : ExceptHandler} {hds : List ExceptHandler} {l : List (Value × Option Nat × (Addr → Value → Option Addr → TS))} {W : WX} {tb : WX → TS} {pos : Pos} (hs : X.stack = X.env :: X.outer) (hf : X.env.frame = some X.env.locals) (hN : X.N.Nodup) (tk : Takes X W)
    (hb : ∀ (V : WX) (pn : List (Addr × Obj)) (xe : Value → Shared → Prop), Takes (X.tr pn xe) V → PassesOwn (model X.prog X.w) X.A X.env xe → PSs (X.tr pn xe) body (tb V))
    (hh : HOks X (h₀ :: hds) l) : PS X (.Try body (h₀ :: hds) [] [] pos) (fun D σ H => tb (wH X.K W D l) D σ H) := by
  refine ⟨fun pins s σ H D I h => ?_⟩
  have ok := I.ok
  refine wpAny_Try_except (wpAny_mono ((hb (wH X.K W D l) (X.pn ++ pins) _ (fun u s' xx => ?_) PassesOwn.looking).run [] s σ H D (I.toTry _) h) (fun f s1 q => ?_) fun e s1 he => he)
  · obtain ⟨a, B, sI, pins', σ', H', cls, d, rfl, J', nb, up, sky, na, os, ag, w⟩ := xx
    have sky' : Sky B (X.env :: X.outer) a (Zc cls d) X.env.locals s'.heap := by rw [← hs]; exact sky
    exact Sky.land Zc.steady (by rw [ok.frames, hs]) hf sky' fun h3 f3 u3 => Down.hands (s := { s' with heap := h3 }) ⟨J'.ofTry ok, nb, up.trans u3, os, ag, na, f3⟩ hs hf hN tk ok hh w
  · cases f with
    | next =>
      obtain ⟨σ', H', J', q⟩ := q
      exact wpAny_execs_nil ⟨σ', H', J'.ofTry ok, q⟩
    | ret u =>
      obtain ⟨v, σ', H', J', r, q⟩ := q
      exact ⟨v, σ', H', J'.ofTry ok, r, q⟩
    | _ =>
      obtain ⟨σ', H', J', q⟩ := q
      exact ⟨σ', H', J'.ofTry ok, q⟩
end HandsS
section ClsS
open PyProof.Rows
/-! ### own classes -/
structure ClF (K : PySem.W.Frag) (mg : Str → Option Value) (nm : Str) : Prop where
  g : mg nm = some (.ref (exA mg nm))
  cl : Cls K (exA mg nm)
theorem ClF.mk' {K : PySem.W.Frag} {mg : Str → Option Value} {nm : Str} {C : Addr} (g : mg nm = some (.ref C)) (c : Cls K C) : ClF K mg nm := by
  have e := exA_of g
  exact ⟨by rw [e]; exact g, by rw [e]; exact c⟩
/-- a method that stands, with its promise -/
structure FnC (P : Program) (w : World) (K : PySem.W.Frag) (mg : Str → Option Value) (base : Heap) (CX : CXT) (k : Nat) (nm qual : Str) (st : Stmt) (f : Addr) (fd : FuncData) (ps : List Str) (sp : Sp) : Prop where
  G : FnOk P w K mg base CX k f fd ps sp
  b : Binds K fd ps []
  F : Fun K nm qual st f fd
theorem pe_fldK {X : Cx} (K : PySem.W.Frag) (eK : X.K = K) {e : Expr} {f : Str} {pos : Pos} {ta : TE} (he : PE X e ta) (hb : attributeBase e f X.env (eval e X.env) = eval e X.env) : PE X (.Attribute e f pos) (tFld K ta f) := by subst eK; exact pe_fld he hb
theorem c_any {X : Cx} (K : PySem.W.Frag) (e : X.K = K) (hc : X.calm = true) : CallR X (.builtin "any") (rAny K) := by subst e; exact cr_any hc
theorem s_make {C : Addr} {sp : Sp} {dvs : List V} {E : XK} {t : TA} {σ : L2.St} {H : Hp} {Q : VK} (h : t σ H fun vs H1 => ∀ x dx, H1 x = none → H1 dx = none → dx ≠ x → sp (.ref x :: (vs ++ dvs)) (upd (upd H1 dx (.own x)) x (.ins C dx [])) (fun v H2 => v = .non ∧ Q (.ref x) H2) E) : tMake C sp dvs E t σ H Q := h
theorem s_meth {C : Addr} {m : Str} {sp : Sp} {dvs : List V} {E : XK} {ta : TE} {t : TA} {σ : L2.St} {H : Hp} {Q : VK} (h : ta σ H fun x H1 => ∃ a dx fs, x = .ref a ∧ H1 a = some (.ins C dx fs) ∧ fs.lookup m = none ∧ t σ H1 fun vs H2 => sp (x :: (vs ++ dvs)) H2 Q E) : tMeth C m sp dvs E ta t σ H Q := h
theorem s_prop {C : Addr} {sp : Sp} {dvs : List V} {E : XK} {ta : TE} {σ : L2.St} {H : Hp} {Q : VK} (h : ta σ H fun x H1 => ∃ a dx fs, x = .ref a ∧ H1 a = some (.ins C dx fs) ∧ sp (.ref a :: dvs) H1 Q E) : tProp C sp dvs E ta σ H Q := h
theorem s_fld {K : PySem.W.Frag} {f : Str} {ta : TE} {σ : L2.St} {H : Hp} {Q : VK} (h : ta σ H fun x H1 => ∃ a C dx fs v, x = .ref a ∧ H1 a = some (.ins C dx fs) ∧ Cls K C ∧ NoAttr K C f ∧ fs.lookup f = some v ∧ Q v H1) : tFld K ta f σ H Q := h
theorem s_sfld {K : PySem.W.Frag} {f : Str} {ta tv : TE} {D : Ends} {σ : L2.St} {H : Hp} (h : tv σ H fun y H1 => ta σ H1 fun x H2 => ∃ a C dx fs, x = .ref a ∧ H2 a = some (.ins C dx fs) ∧ Cls K C ∧ NoAttr K C f ∧ fs.length < 1000 ∧ D.nx σ (upd H2 a (.ins C dx (putF f y fs)))) : sFld K ta tv f D σ H := h
/-- o.m(k = v, ..) -/
def tMethK0 (C : Addr) (m : Str) (sp : Sp) (gV : List V → List V → List V) (E : XK) (ta : TE) (tk : TA) : TE := fun σ H Q => ta σ H fun x H1 => ∃ a dx fs, x = .ref a ∧ H1 a = some (.ins C dx fs) ∧ fs.lookup m = none ∧ tk σ H1 fun zs H2 => sp (gV [x] zs) H2 Q E
theorem pe_methK0 {X : Cx} {CX : CXT} {k : Nat} {f C : Addr} {fd : FuncData} {ps ks : List Str} {sp : Sp} {E : XK} {m : Str} {pos apos : Pos} {o : Expr} {ta : TE} {kws : List Keyword} {tk : TA} {g : List Value → List Value → List Value} {gV : List V → List V → List V} {pl : Sem Bool}
    (he : PE X o ta) (c : Cls X.K C) (hm : Meth X.K C m f) (F : FnOk X.prog X.w X.K X.mg X.base CX k f fd ps sp) (hr : Room k X.A) (hb : KBinds X.K fd ps ks g gV) (hx : Passes CX X E) (hkw : PK X kws tk)
    (hall : (backToKw pos (keywordEach kws X.env)).all (·.1.isSome) = true := by rfl) (hks : (backToKw pos (keywordEach kws X.env)).filterMap (·.1) = ks := by rfl)
    (hpl : ((backTo pos (starEach [] X.env)).any (·.1) || (backToKw pos (keywordEach kws X.env)).any (·.1.isNone)) = false := by rfl)
    (ht : eval (.Call (.Attribute o m apos) [] kws pos) X.env = (do
      let ov ← eval o X.env
      standAt apos.atName
      let (f, first) ← holding [ov] (getMethod ov m pl)
      callWith pos f first (backTo pos (starEach [] X.env)) (backToKw pos (keywordEach kws X.env))) := by rfl) :
    PE X (.Call (.Attribute o m apos) [] kws pos) (tMethK0 C m sp gV E ta tk) := by
  refine ⟨fun pins s σ H Q I h => ?_⟩
  refine PySem.W.methodCall_KW (pl := pl) (thn (he.run pins s σ H _ I h) fun u s1 ⟨x, H1, I1, rx, a, dx, fs, ex, ea, l, q⟩ => ?_) ht
  subst ex
  obtain rfl : u = Value.ref a := rx
  refine getmeth_ok I1 ea c hm l ?_
  refine PySem.W.callWith_KW0 (first := [.ref a]) (h₀ := X.base) I1.ok.mod.kin hm.kp hall ?_ hpl
  refine thn (hkw.run pos pins s1 σ H1 _ I1 q) fun ws s2 ⟨zs, H2, I2, rz, q2⟩ => ⟨I2.kIn, ?_⟩
  rw [hks]
  exact run_fnk (us := [.ref a]) (vs := [.ref a]) F hr hb hx I2 (.cons rfl .nil) rz q2
theorem s_methK0 {C : Addr} {m : Str} {sp : Sp} {gV : List V → List V → List V} {E : XK} {ta : TE} {tk : TA} {σ : L2.St} {H : Hp} {Q : VK} (h : ta σ H fun x H1 => ∃ a dx fs, x = .ref a ∧ H1 a = some (.ins C dx fs) ∧ fs.lookup m = none ∧ tk σ H1 fun zs H2 => sp (gV [x] zs) H2 Q E) : tMethK0 C m sp gV E ta tk σ H Q := h
end ClsS
theorem SqT.ofK {K : PySem.W.Frag} {H : Hp} {a : Addr} {xs : List V} {o : Obj} {its : Array Value} {n : Nat} (hk : K.lookup a = some o) (hc : o.cls = .type "tuple") (hd : o.data = .seq its n) (hz : its.size ≤ sizeLine) (r : Vals xs its.toList) : SqT K H a xs := .inr ⟨o, its, n, hk, hc, hd, hz, r⟩
theorem CTup.mk' {K : PySem.W.Frag} {mg : Str → Option Value} {nm : Str} {R : Addr} {xs : List V} (g : mg nm = some (.ref R)) (h : ∀ H, SqT K H R xs) : mg nm = some (.ref (exA mg nm)) ∧ ∀ H, SqT K H (exA mg nm) xs := by
  have e := exA_of g
  exact ⟨by rw [e]; exact g, fun H => by rw [e]; exact h H⟩
theorem sl_tupK {X : Cx} (K : PySem.W.Frag) (e : X.K = K) : SlR X (rSlT K) := by subst e; exact sl_tup
theorem _root_.L2.Fun.kbinds1 {K : PySem.W.Frag} {x qual : Str} {st : Stmt} {f : Addr} {fd : FuncData} {ps : List Str} (F : Fun K x qual st f fd) (ks : List Str) (hn : 0 < ps.length)
    (h : ∀ (kV doc pm : Value) (an : Option Addr) (cdv ct : Value) (us ws : List Value), us.length = 1 → ws.length = ks.length → bindArgs (PySem.W.fnOf x qual (defArgs st) (defBody st) (defScope st) .none kV doc pm an cdv ct) ⟨us, ks.zip ws⟩ = pure (ps.zip (us ++ ws))) :
    KBn K fd ps 1 ks (fun us ws => us ++ ws) (fun us ws => us ++ ws) := by
  obtain ⟨oc, od, kV, doc, pm, an, cdv, ct, osl, rfl, lk, hcd⟩ := F.ex
  exact ⟨fun s us ws _ h1 h2 => .of_eq (h kV doc pm an cdv ct us ws h1 h2), fun r rz => r.append rz⟩
section SumT
open PyProof.Rows PySem
/-! ### sum of a tuple of ints -/
section
variable {prog : Program} {w : World} {A : Around} {E : Value → Shared → Prop} {s : Shared} {l : Addr} {xs : Array (Int × Tok)}
theorem sum_intTup {Q : Value → Shared → Prop} (hh : A.handled = none) (hl : s.heap.IsTuple l (intItems xs))
    (h : ∀ h' tk t', (∀ b o, s.heap.get? b = some o → h'.get? b = some o) → Q (.int (preSum (numAt xs) xs.size) t') { s with heap := h', toks := tk }) :
    wpAny (model prog w) A (call (.builtin "sum") [.ref l]) Q E s := by
  have hlt : l < s.heap.objs.size := by obtain ⟨_, e, _⟩ := hl; exact Heap.lt_size e
  refine call_sum_walkG (wpAny_pyIter_tuple hl ?_)
  refine ⟨s.heap.objs.size, _, _, _, _, _, numAt xs, rfl, Walks.tuple (A := A.in1) hh _ l (Nat.ne_of_lt hlt) (intItems xs), ⟨⟨_, Heap.get?_push_size _ rfl, rfl, rfl⟩, hl.at fun o e => Heap.get?_push_of_some _ e⟩, fun b hb => ?_, (fun _ _ => intItems_at), fun h' tk t' hk => ?_⟩
  · show b < (s.heap.push _).objs.size
    rw [Heap.size_push]
    rcases List.mem_cons.mp hb with rfl | hb
    · exact Nat.lt_succ_self _
    · rcases List.mem_cons.mp hb with rfl | hb
      · exact Nat.lt_succ_of_lt hlt
      · cases hb
  · have := h h' tk t' (fun b o e => hk b o (by
      simp only [List.mem_singleton]
      intro z
      rw [z] at e
      exact absurd (Heap.lt_size e) (Nat.lt_irrefl _)) (Heap.get?_push_of_some _ e))
    simpa [intItems] using this
end
def rSumT (K : PySem.W.Frag) : List V → Hp → VK → Prop := fun vs H Q => ∃ (a : Addr) (ns : List Int), vs = [V.ref a] ∧ SqT K H a (ns.map V.int) ∧ Q (.int ns.sum) H
theorem cr_sumT {X : Cx} (hc : X.calm = true) : CallR X (.builtin "sum") (rSumT X.K) := by
  intro pins s σ H vs us Q I r h
  obtain ⟨a, ns, rfl, hs, q⟩ := h
  obtain ⟨its, rv, hl, _⟩ := I.tuple hs
  rw [Vals.ref1 r]
  have hi := rv.ints
  obtain ⟨xs, e⟩ := hi.allInts.items
  have hn : numsOf (intItems xs).toList = ns := by rw [← e]; exact hi.numsOf
  rw [nums_intItems] at hn
  obtain ⟨o, ho, hc2, n, hd⟩ := hl
  rw [e] at hd
  refine sum_intTup (I.ok.hd hc) ⟨o, ho, hc2, n, hd⟩ fun h' tk t' hk => ⟨.int _, H, I.kept hk, ⟨_, rfl⟩, ?_⟩
  rw [preSum_eq, List.take_of_length_le (by simp), hn]; exact q
/-- a list or a tuple of ints -/
def SqN (K : PySem.W.Frag) (H : Hp) (a : Addr) (ns : List Int) : Prop := SqL K H a (ns.map V.int) ∨ SqT K H a (ns.map V.int)
def rSumN (K : PySem.W.Frag) : List V → Hp → VK → Prop := fun vs H Q => ∃ (a : Addr) (ns : List Int), vs = [V.ref a] ∧ SqN K H a ns ∧ Q (.int ns.sum) H
theorem c_sumN {X : Cx} (K : PySem.W.Frag) (eK : X.K = K) (hc : X.calm = true) : CallR X (.builtin "sum") (rSumN K) := by
  subst eK
  intro pins s σ H vs us Q I r h
  obtain ⟨a, ns, e, hs, q⟩ := h
  rcases hs with hs | hs
  · exact cr_sum hc pins s σ H vs us Q I r ⟨a, ns, e, hs, q⟩
  · exact cr_sumT hc pins s σ H vs us Q I r ⟨a, ns, e, hs, q⟩
end SumT
section SupS
open PyProof.Rows PySem.Spec
/-! ### an own exception whose __init__ says super().__init__(..), below ValueError -/
/-- what the written part says of the class at C, whose __init__ closes over the cell cc and bears the code at cda -/
structure SupC (K : PySem.W.Frag) (C cc cda : Addr) (file : Str) : Prop where
  mro : PySem.W.ks_superIn K C C "__init__" = some (some (.builtin "ValueError.__init__"))
  val : PySem.W.subIn K (.ref C) (.type "ValueError") = some true
  self : PySem.W.mroIn K C (.ref C) = some true
  cls : ∃ cd, PySem.W.clsIn K C = some cd
  any : PySem.W.nsIn K cStatics "thirdparty.any" = some none
  cell : ∃ cl cld csl, K.lookup cc = some ⟨cl, cld, .cell (some (.ref C)), csl⟩
  code : ∃ ccl cdd vs ccs tf, K.lookup cda = some ⟨ccl, cdd, .fields vs, ccs⟩ ∧ vs[2]? = some (.str file tf)
section
variable {prog : Program} {w : World} {A : Around} {E : Value → Shared → Prop} {h : Heap} {g : Array GenState} {d : PySem.Drawn} {t : Nat} {os : OsState}
variable {nm q : Str} {C N : Addr} {bs bm : List Value} {hdct : Bool} {sn : List Str} {sub : List Value} {ab : Bool} {col : Option Bool} {dd : Option Addr} {k0 k1 k2 k3 k5 : Option Value}
theorem call_bwV {u e t0 : Addr} {rest : List Value} {Q : Value → Shared → Prop}
    (hC : h.get? C = some (excClassObj nm q C N bs bm hdct sn sub ab col dd k0 k1 k2 k3 k5 "ValueError.__new__")) (he : h.get? e = some (HandSPX.excO C t0)) (hu : h.get? u = some (PySem.W.kxs_mw "ValueError.__init__" e)) (hrest : rest.length ≤ sizeLine)
    (hq : ∀ h' t1, (∀ b o, b ≠ e → h.get? b = some o → h'.get? b = some o) → h'.get? e = some (HandSPX.excO C t1) → Q .none ⟨h', g, d, t, os⟩) :
    wpAny (model prog w) A (call (.ref u) rest) Q E ⟨h, g, d, t, os⟩ := by
  refine wpAny_call (codeAny_of_tree ?_)
  show wpAny _ A.in1 (callAny (.ref u) ⟨rest, []⟩) _ _ _
  simp only [callAny]
  refine wpAny_bind (wpAny_load hu ?_)
  simp only [PySem.W.kxs_mw, show (Value.type "method-wrapper" == Value.type "method" || Value.type "method-wrapper" == Value.type "builtin_function_or_method" || Value.type "method-wrapper" == Value.type "method-wrapper") = true by decide, if_true]
  refine W.KFB.if_so (by decide) ?_
  refine wpAny_bind (PySem.W.check_bound_init F.excBase_ValueError.toExcCallFacts hC he rfl ?_)
  refine wpAny_bind (wpAny_pure (wpAny_pure ?_))
  refine ⟨plainId_quiet F.excBase_ValueError.init.plain _, codeAny_builtin F.excBase_ValueError.initEntry ?_⟩
  rw [Around.under_plainId F.excBase_ValueError.init.plain _]
  wp_walk
  refine hq _ h.objs.size (fun b o hb ho => ?_) ?_
  · rw [Heap.get?_update_other _ _ (Ne.symm hb)]
    exact Heap.get?_push_of_some _ ho
  · rw [Heap.get?_update_self _ (Heap.get?_push_of_some _ he) rfl]
    rfl
end
section
variable {X : Cx} {pins : List (Addr × Obj)} {σ : L2.St} {H : Hp} {s : Shared} {a C : Addr}
theorem supinit_ok {u : Addr} {us : List Value} {Q : Value → Shared → Prop} {A : Around} {E : Value → Shared → Prop} (T : OexC X.K C) (I : Inv X ((u, PySem.W.kxs_mw "ValueError.__init__" a) :: pins) σ H s) (e : H a = some (exo a C none)) (hl : us.length ≤ sizeLine) (h : ∀ s', Inv X pins σ H s' → Q .none s') :
    wpAny (model X.prog X.w) A (call (.ref u) us) Q E s := by
  obtain ⟨nm, q, N, bs, bm, sn, sub, ab, col, dd, k0, k1, k2, k3, k5, hC, hbm⟩ := T.cls
  obtain ⟨t1, ho⟩ := exo_at I.hok e
  have hu := ClX.pin_at I
  obtain ⟨hp, g, d, t, os⟩ := s
  refine call_bwV (I.kIn _ _ hC) ho hu hl fun h' t2 k hx => ?_
  have I0 := ClX.unpin I
  have J := I0.write (t' := t) (x := a) (e := a) (o := exo a C none) (by rw [e]; exact True.intro) (.inl rfl) k ⟨_, hx⟩ (exo_ok hx)
  have eu : upd H a (exo a C none) = H := by
    funext b
    by_cases hb : b = a
    · rw [hb, upd_same, e]
    · rw [upd_ne hb]
  rw [eu] at J
  exact h _ J
end
section
variable {X : Cx} {pins : List (Addr × Obj)} {σ : L2.St} {H : Hp} {s : Shared} {a C cc cda f : Addr} {file q : Str} {body : List Stmt} {scope : Scope} {of : Obj} {fd : FuncData} {ar : Arg}
/-- super().__init__(e, ..) -/
theorem sup_call {e : Expr} {es : List Expr} {ta : TA} {p0 p1 p2 pos : Pos} {pl : Sem Bool} {Q : Value → Shared → Prop} (S : SupC X.K C cc cda file) (T : OexC X.K C)
    (ef : X.prog.main.file = file) (et : (X.prog.main.scope.names.lookup ("super" : Str)).isSome = false) (hfu : X.env.func = some f) (hf : X.K.lookup f = some of) (hfd : of.data = .func fd)
    (hp : (fd.params.posonlyargs ++ fd.params.args).head? = some ar) (hco : X.env.code = .ref cda) (hce : X.env.cells.lookup ("__class__" : Str) = some cc)
    (hks : X.env.kindOf ("super" : Str) = some .globalImplicit) (hkc : X.env.kindOf ("__class__" : Str) = some .free) (hka : X.env.kindOf ar.arg = some .local) (hms : X.mg "super" = none)
    (hN : X.N[0]? = some ar.arg) (hσ : σ[0]? = some (some (.ref a))) (I : Inv X pins σ H s) (ea : H a = some (exo a C none)) (ha : PA X (e :: es) ta)
    (h : ta σ H fun vs H1 => vs.length ≤ 1000 ∧ H1 a = some (exo a C none) ∧ ∀ s', Inv X pins σ H1 s' → Q .none s')
    (hev : eval (.Call (.Attribute (.Call (.Name "super" p0) [] [] p1) "__init__" p2) (e :: es) [] pos) X.env = (do
      let ov ← attributeBase (.Call (.Name "super" p0) [] [] p1) "__init__" X.env (eval (.Call (.Name "super" p0) [] [] p1) X.env)
      standAt p2.atName
      let (f, first) ← holding [ov] (getMethod ov "__init__" pl)
      callWith pos f first (backTo pos (starEach (e :: es) X.env)) []) := by rfl)
    (he : starEach (e :: es) X.env = (false, eval e X.env) :: starEach es X.env := by rfl) (hpl : (backTo pos (starEach es X.env)).any (·.1) = false := by rfl) :
    _root_.PySem.wpAt (model X.prog X.w) X.A (.func body X.env) (eval (.Call (.Attribute (.Call (.Name "super" p0) [] [] p1) "__init__" p2) (e :: es) [] pos) X.env) Q X.xe s := by
  obtain ⟨cl, cld, csl, hcell⟩ := S.cell
  obtain ⟨ccl, cdd, vs, ccs, tf, hcode, hvs⟩ := S.code
  obtain ⟨cd, hcd⟩ := S.cls
  obtain ⟨m, hm, hloc⟩ := I.loc
  have KX : X.K.In s.heap := I.kIn
  have hv : m ar.arg = some (.ref a) := by
    obtain ⟨u, ru, lu⟩ := hloc 0 ar.arg (.ref a) hN hσ (.inl hka)
    obtain rfl : u = Value.ref a := ru
    rcases lu with ⟨_, z⟩ | ⟨z, _⟩
    · exact z
    · rcases z with z | z <;> rw [hka] at z <;> cases z
  obtain ⟨t0, ho⟩ := exo_at I.hok ea
  obtain ⟨mb, b1, b2⟩ := I.ok.mod.blt
  obtain ⟨oD, hD1, hD2⟩ : ∃ oD, s.heap.get? C = some oD ∧ oD.data = .cls cd := by
    unfold PySem.W.clsIn at hcd
    split at hcd
    · rename_i c d cd' sl ho
      cases hcd
      exact ⟨_, KX _ _ ho, rfl⟩
    · cases hcd
  refine PySem.ks_wpAt_MethodCall (pl := pl) ?_ hev
  refine PySem.ks_wpAt_super_base hks hkc (by decide) hfu (KX _ _ hf) hfd hp hco (KX _ _ hcode) rfl hvs (by rw [ef]; simp) et ?_
  refine PySem.W.ks_loadName_global I.ok.kind hks (Calls.loadGlobal_builtin (by rw [I.ok.glob]; exact I.mod.glob.keeps I.bk) hms (by rw [I.ok.blt]; exact b1.keeps I.bk) ((b2 _ (by decide)).trans (by kernel_rfl)) ⟨rfl, ?_⟩)
  refine wpAny_loadName_free I.ok.kind hkc hce ⟨_, KX _ _ hcell, rfl⟩ ?_
  refine wpAny_loadName_local I.ok.kind hka hm hv ?_
  refine PySem.ks_wpAny_isType_cls hD1 hD2 ⟨rfl, ?_⟩
  have hI : PySem.W.InstAt s.heap a { cls := .ref C, dict := none, data := .fields #[.ref t0, .none, .none, .none, .bool false, .none] } C none := ⟨ho, rfl, rfl, trivial⟩
  obtain ⟨hp, g, d, t, os⟩ := s
  refine PySem.ks_wpAny_call_super hD1 hD2 ho rfl (fun c z => by cases z) (PySem.W.looks_mroIn KX S.self) (fun h' e1 k1 => ?_)
  have I1 : Inv X pins σ H ⟨h', g, d, t, os⟩ := I.kept (t' := t) k1
  have hI1 : PySem.W.InstAt h' a { cls := .ref C, dict := none, data := .fields #[.ref t0, .none, .none, .none, .bool false, .none] } C none := ⟨k1 _ _ ho, rfl, rfl, trivial⟩
  refine PySem.W.kxs_getMethod PySem.W.kxs_ValueError e1 (PySem.W.looks_opaque I1.kIn S.any) (l₀ := cd.mro) (fun A Q E s k q => wpAny_bind ((PySem.W.looks_clsIn I1.kIn hcd) A _ E s k (wpAny_pure q))) rfl I1.kIn
    (by have z := S.mro; unfold PySem.W.ks_superIn at z; rw [hcd] at z; exact z) (hI1.type.andThen (PySem.W.looks_subIn I1.kIn S.val)) (PySem.W.ks_ne I1.kIn hI1 hcd) (by decide) ?_
  have I2 : Inv X ((h'.objs.size, PySem.W.kxs_mw "ValueError.__init__" a) :: pins) σ H ⟨h'.push (PySem.W.kxs_mw "ValueError.__init__" a), g, d, t + 1, os⟩ :=
    ClX.pin_new (t' := t + 1) I1 (fun b o z => Heap.get?_push_of_some _ z) (Nat.le_refl _) (Heap.get?_push_at rfl rfl) (fun v z => by cases z)
  have hev2 := thn (ha.run pos _ _ σ H _ I2 h) (Q' := fun vs s₁ => PySem.W.KxsAt "ValueError.__init__" h'.objs.size a s₁.heap ∧ wpAny (model X.prog X.w) X.A (call (.ref h'.objs.size) vs) Q X.xe s₁) fun us s1 ⟨vs, H1, J, r1, q1, q2, q3⟩ => ⟨ClX.pin_at J, supinit_ok T J q2 (by rw [← r1.length, sizeLine_eq]; omega) q3⟩
  show wpAny _ _ (callWith pos (.ref h'.objs.size) [] (backTo pos (starEach (e :: es) X.env)) []) _ _ _
  rw [he] at hev2 ⊢
  refine PySem.W.kxs_callWith (i := "ValueError.__init__") (x := a) (by show (false || (backTo pos (starEach es X.env)).any (·.1)) = false; rw [hpl]; rfl) ?_
  exact Calls.evalArgs_plain hev2
end
end SupS
section Sup2
open PyProof.Rows PySem.Spec
/-- an __init__ that closes over its class -/
structure FunS (K : PySem.W.Frag) (x qual : Str) (st : Stmt) (f : Addr) (fd : FuncData) (cc cda : Addr) : Prop where
  ex : ∃ (oc : Value) (od : Option Addr) (kV doc pm : Value) (an : Option Addr) (ct : Value) (osl : Array (Option Value)),
    fd = PySem.W.ksFn x qual (defArgs st) (defBody st) (defScope st) .none kV doc pm an (.ref cda) ct cc ∧ K.lookup f = some ⟨oc, od, .func fd, osl⟩ ∧ PySem.W.codeIn K (.ref cda) qual = true
theorem funS_mk {K : PySem.W.Frag} {x qual : Str} {st : Stmt} {f cc cda : Addr} {oc kV doc pm ct : Value} {od an : Option Addr} {osl : Array (Option Value)}
    (lk : K.lookup f = some ⟨oc, od, .func (PySem.W.ksFn x qual (defArgs st) (defBody st) (defScope st) .none kV doc pm an (.ref cda) ct cc), osl⟩) (hcd : PySem.W.codeIn K (.ref cda) qual = true) :
    FunS K x qual st f (PySem.W.ksFn x qual (defArgs st) (defBody st) (defScope st) .none kV doc pm an (.ref cda) ct cc) cc cda := ⟨_, _, _, _, _, _, _, _, rfl, lk, hcd⟩
abbrev nfS (x qual : Str) (st : Stmt) (cc cda : Addr) : NdefX.NF := ⟨x, qual, defArgs st, defBody st, defScope st, [("__class__", cc)], cda⟩
/-- the context of its body -/
abbrev supX (CX : CXT) (P : Program) (w : World) (K : PySem.W.Frag) (mg : Str → Option Value) (base : Heap) (N : List Str) (x qual : Str) (st : Stmt) (cc cda f : Addr) (A : Around) (outer : List Env) (s : Shared) (H : Hp) (E : XK) : Cx :=
  NdefX.ncx CX P w K mg base N (nfS x qual st cc cda) f A outer s H E
section
variable {CX : CXT} {P : Program} {w : World} {K : PySem.W.Frag} {mg : Str → Option Value} {base : Heap} {N ps : List Str} {x qual : Str} {st : Stmt} {f C cc cda : Addr} {fd : FuncData} {k : Nat} {sp : Sp} {file : Str} {ar : Arg} {e : Expr} {rest : List Stmt} {p0 p1 p2 pos pe : Pos}
theorem okSup (F : FunS K x qual st f fd cc cda) (S : NdefX.NScope N ps ["__class__"] (defScope st)) (len : ∀ vs H Q E, sp vs H Q E → vs.length = ps.length)
    (eb : defBody st = .Expr (.Call (.Attribute (.Call (.Name "super" p0) [] [] p1) "__init__" p2) [e] [] pos) pe :: rest)
    (SC : SupC K C cc cda file) (T : OexC K C) (ef : P.main.file = file) (et : (P.main.scope.names.lookup ("super" : Str)).isSome = false) (hp : ((defArgs st).posonlyargs ++ (defArgs st).args).head? = some ar)
    (hks : (defScope st).names.lookup ("super" : Str) = some .globalImplicit) (hka : (defScope st).names.lookup ar.arg = some .local) (hN : N[0]? = some ar.arg) (hms : mg "super" = none)
    (hst : ∀ env, starEach [e] env = [(false, eval e env)]) {pl : Env → Sem Bool}
    (hev : ∀ env : Env, eval (.Call (.Attribute (.Call (.Name "super" p0) [] [] p1) "__init__" p2) [e] [] pos) env = (do
      let ov ← attributeBase (.Call (.Name "super" p0) [] [] p1) "__init__" env (eval (.Call (.Name "super" p0) [] [] p1) env)
      standAt p2.atName
      let (f, first) ← holding [ov] (getMethod ov "__init__" (pl env))
      callWith pos f first (backTo pos (starEach [e] env)) []))
    (hbody : ∀ (A : Around) (outer : List Env) (s : Shared) (H : Hp) (vs : List V) (Q : VK) (E : XK), Room k (A.deeper (supX CX P w K mg base N x qual st cc cda f A outer s H E).env) → sp vs H Q E →
      ∃ (a : Addr) (ta : TA) (tr : TS), PA (supX CX P w K mg base N x qual st cc cda f A outer s H E) [e] ta ∧ PSs (supX CX P w K mg base N x qual st cc cda f A outer s H E) rest tr ∧ vs[0]? = some (.ref a) ∧ H a = some (exo a C none) ∧
        ∀ R : List V → Hp → Prop, (∀ us H1, us.length ≤ 1000 → H1 a = some (exo a C none) → tr { nx := fun _ H' => Q .non H', rt := Q } (NdefX.startF N vs [none]) H1 → R us H1) → ta (NdefX.startF N vs [none]) H R) :
    FnOk P w K mg base CX (k + 1) f fd ps sp := by
  obtain ⟨oc, od, kV, doc, pm, an, ct, osl, rfl, lk, hcd⟩ := F.ex
  refine ⟨len, fun A outer s H args us vs Q E hr e0 hb r hsp => ?_⟩
  have hl := len _ _ _ _ hsp
  have KX : K.In s.heap := e0.mod.kin.keeps fun b o e => (e0.bs b o e).1
  have lim : s.heap.NoLimit := e0.mod.nolimit.keeps fun b o e => (e0.bs b o e).1
  refine PySem.ks_codeAny_call_defAt (fd := PySem.W.ksFn x qual (defArgs st) (defBody st) (defScope st) .none kV doc pm an (.ref cda) ct cc) (body := defBody st) (binds := ps.zip us) hr.depth (KX _ _ lk) rfl lim (PySem.W.codeRec_of KX hcd) rfl hb S.nocell
    (fun ⟨n, _⟩ hy => S.par n (List.of_mem_zip hy).1) (fun h₁ hns kp => ?_) S.co S.gen S.kind
  obtain ⟨a, ta, tr, hta, htr, ha0, hea, hq⟩ := hbody A outer s H vs Q E (hr.deeper _) hsp
  have CA : NdefX.CellsAt [(("__class__" : Str), cc)] ["__class__"] [none] s.heap H := by
    obtain ⟨cl, cld, csl, hc⟩ := SC.cell
    have hb0 := e0.bs cc _ (e0.mod.kin _ _ hc)
    refine ⟨rfl, fun y c z => ?_, fun x y c z1 z2 => ?_, fun i y z => ?_⟩
    · have e2 : c = cc := by
        rw [List.lookup_cons] at z
        split at z
        · exact (Option.some.inj z).symm
        · cases z
      subst e2
      exact ⟨hb0.2, _, _, hb0.1, rfl⟩
    · rw [List.lookup_cons] at z1 z2
      split at z1
      · split at z2
        · rename_i q1 _ q2
          exact (eq_of_beq (by assumption)).trans (eq_of_beq (by assumption)).symm
        · cases z2
      · cases z1
    · have hy : y = "__class__" := by
        cases i with
        | zero => exact (Option.some.inj z).symm
        | succ n => simp at z
      subst hy
      refine ⟨cc, by rw [List.lookup_cons]; rfl, fun v z2 => ?_⟩
      cases i with
      | zero => simp at z2
      | succ n => simp at z
  have I : Inv (supX CX P w K mg base N x qual st cc cda f A outer s H E) [] (NdefX.startF N vs [none]) H { s with heap := h₁, toks := s.toks + (ps.zip us).length } := NdefX.inv_startN (F := nfS x qual st cc cda) S hr.hd e0 hl r CA hns kp
  have hσ : (NdefX.startF N vs [none])[0]? = some (some (.ref a)) := by
    cases vs with
    | nil => simp at ha0
    | cons v vs =>
      simp at ha0
      subst ha0
      rfl
  have hkc : (defScope st).names.lookup ("__class__" : Str) = some .free := S.frk _ (by simp)
  have key : _root_.PySem.wpAt (model P w) (supX CX P w K mg base N x qual st cc cda f A outer s H E).A (.func (defBody st) (supX CX P w K mg base N x qual st cc cda f A outer s H E).env) (execs (defBody st) (supX CX P w K mg base N x qual st cc cda f A outer s H E).env)
      (SP (supX CX P w K mg base N x qual st cc cda f A outer s H E) [] { nx := fun _ H' => Q .non H', rt := Q }) (supX CX P w K mg base N x qual st cc cda f A outer s H E).xe { s with heap := h₁, toks := s.toks + (ps.zip us).length } := by
    rw [show execs (defBody st) (supX CX P w K mg base N x qual st cc cda f A outer s H E).env = execs (.Expr (.Call (.Attribute (.Call (.Name "super" p0) [] [] p1) "__init__" p2) [e] [] pos) pe :: rest) (supX CX P w K mg base N x qual st cc cda f A outer s H E).env from by rw [eb]]
    refine PySem.ks_wpAt_execs_cons (PySem.ks_wpAt_Expr_any ?_ (by unfold interactive; rw [show (supX CX P w K mg base N x qual st cc cda f A outer s H E).env.scope.kind = .function from S.kind]; rfl) rfl)
    refine sup_call (X := supX CX P w K mg base N x qual st cc cda f A outer s H E) (a := a) (C := C) (cc := cc) (cda := cda) (f := f) (file := file) (fd := PySem.W.ksFn x qual (defArgs st) (defBody st) (defScope st) .none kV doc pm an (.ref cda) ct cc) (ar := ar) SC T ef et rfl lk rfl hp rfl (by show List.lookup _ [(("__class__" : Str), cc)] = some cc; rw [List.lookup_cons]; rfl) hks hkc hka hms hN hσ I hea hta (hq _ fun us H1 z1 z2 z3 => ⟨z1, z2, fun s' J => _root_.PySem.wpAt_of_wpAny (htr.run [] s' _ _ _ J z3)⟩) (hev _) (hst _) rfl
  refine PySem.ks_wpAt_mono key (fun fl s' hs => ?_) fun e s' hs => hs
  have fin : ∀ {σ' : L2.St} {H' : Hp} {v : V} {u : Value}, Inv (supX CX P w K mg base N x qual st cc cda f A outer s H E) [] σ' H' s' → L2.RelV v u → Q v H' → CE outer P w H s Q u s' :=
    fun {σ' H' v u} J rv q => ⟨v, H', J.os, J.bare, J.base, J.hok, rv, q⟩
  cases fl with
  | ret u =>
    obtain ⟨v, σ', H', J, rv, q⟩ := hs
    exact fin J rv q
  | next =>
    obtain ⟨σ', H', J, q⟩ := hs
    exact fin (v := V.non) (u := Value.none) J rfl q
  | brk =>
    obtain ⟨_, _, _, q⟩ := hs
    exact False.elim q
  | cont =>
    obtain ⟨_, _, _, q⟩ := hs
    exact False.elim q
end
end Sup2
section ExcI2
open PySem.W PySem.Spec PySem.Calls PyProof.Rows
/-- isinstance(e, c) in an except suite, e with fields or without -/
def rIsY (K : PySem.W.Frag) (a : Addr) (cls : Value) (d : Option Addr) : List V → Hp → VK → Prop := fun xs H Q => ∃ D, cls = .ref D ∧ (d = none ∨ ∃ dd fs, d = some dd ∧ H dd = some (.xd fs)) ∧ ExcC K D ∧ rIsE K D a xs H Q
theorem call_isY {X : Cx} (K : PySem.W.Frag) (eK : X.K = K) {a : Addr} {cls : Value} {d : Option Addr} {oe : Obj} {pn : List (Addr × Obj)} (hz : Zc cls d oe) (hf : ∃ vs, oe.data = .fields vs) : CallR (X.suite a ((a, oe) :: pn)) (.builtin "isinstance") (rIsY K a cls d) := by
  subst eK
  intro pins s σ H xs us Q I r h
  obtain ⟨D, rfl, hd, C, c, cv, b, rfl, hcv, e, q⟩ := h
  cases r with
  | cons rx rr =>
    cases rr with
    | cons rt rr =>
      cases rr
      cases rx
      have ec := hcv _ rt
      subst ec
      obtain ⟨hget, _⟩ := I.pin (a, oe) (List.mem_append.mpr (.inl List.mem_cons_self))
      obtain ⟨vs, hv⟩ := hf
      have J : ∃ od, PySem.W.InstAt s.heap a oe D od := by
        obtain ⟨oc, od, oda, osl⟩ := oe
        obtain ⟨h1, h2⟩ := hz
        dsimp only at h1 h2 hv
        subst h1 h2 hv
        rcases hd with e | ⟨dd, fs, e, ea⟩
        · subst e
          exact ⟨none, hget, rfl, rfl, trivial⟩
        · subst e
          obtain ⟨mA, hns, hr⟩ := (show ObjOk X.prog X.w H s.heap dd (.xd fs) from I.hok dd _ ea)
          obtain ⟨od, ho, hl⟩ := lookIn_ns hns
          exact ⟨some od, hget, rfl, rfl, ho⟩
      obtain ⟨od, J⟩ := J
      exact PySem.W.kia_one (PySem.W.kitx_exc (by obtain ⟨cd, hc, _⟩ := PySem.W.any_some C.hd; rw [hc]; rfl) C.hg C.hk C.hs C.ha C.hn C.ht C.hm) I.kIn J e (fun z => nomatch z) fun tk => ⟨.bl b, H, I.kept (t' := tk) fun _ _ z => z, rfl, q⟩
theorem s_isY {K : PySem.W.Frag} {a D C : Addr} {d : Option Addr} {b : Bool} {H : Hp} {Q : VK} (c : ExcC K D) (hd : d = none ∨ ∃ dd fs, d = some dd ∧ H dd = some (.xd fs)) (k : PySem.W.kitOne K (.ref D) (.ref C) = some b) (q : Q (.bl b) H) : rIsY K a (.ref D) d [.ref a, .ref C] H Q :=
  ⟨D, rfl, hd, c, .ref C, .ref C, b, rfl, fun _ r => r, k, q⟩
theorem s_isYt {K : PySem.W.Frag} {a D : Addr} {n : String} {d : Option Addr} {b : Bool} {H : Hp} {Q : VK} (c : ExcC K D) (hd : d = none ∨ ∃ dd fs, d = some dd ∧ H dd = some (.xd fs)) (k : PySem.W.kitOne K (.ref D) (.type n) = some b) (q : Q (.bl b) H) : rIsY K a (.ref D) d [.ref a, .ty n] H Q :=
  ⟨D, rfl, hd, c, .ty n, .type n, b, rfl, fun _ r => r, k, q⟩
end ExcI2
section Sup3
open PyProof.Rows PySem.Spec
theorem clsIn_some {K : PySem.W.Frag} {nm q : Str} {C N : Addr} {bs bm : List Value} {hdct : Bool} {sn : List Str} {sub : List Value} {ab : Bool} {col : Option Bool} {dd : Option Addr} {k0 k1 k2 k3 k5 : Option Value} {id : String}
    (h : K.lookup C = some (excClassObj nm q C N bs bm hdct sn sub ab col dd k0 k1 k2 k3 k5 id)) : ∃ cd, PySem.W.clsIn K C = some cd := by
  unfold PySem.W.clsIn
  rw [h]
  exact ⟨_, rfl⟩
/-- an own exception class that has its own __init__ -/
structure ExG (K : PySem.W.Frag) (mg : Str → Option Value) (nm : Str) : Prop where
  g : mg nm = some (.ref (exA mg nm))
  k : PySem.W.keepIn K (.ref (exA mg nm)) = true
  b : PySem.W.subIn K (.ref (exA mg nm)) (.type "BaseException") = some true
  t : PySem.W.typeIn K (.ref (exA mg nm)) = some (.type "type")
  c : ExcC K (exA mg nm)
theorem ExG.mk' {K : PySem.W.Frag} {mg : Str → Option Value} {nm : Str} {C : Addr} (g : mg nm = some (.ref C)) (k : PySem.W.keepIn K (.ref C) = true)
    (b : PySem.W.subIn K (.ref C) (.type "BaseException") = some true) (t : PySem.W.typeIn K (.ref C) = some (.type "type"))
    (hg : PySem.W.findIn K (.ref C) "__getattribute__" = some (some (.builtin "BaseException.__getattribute__"))) (hk : PySem.W.findIn K (.ref C) "__getattr__" = some none) (hd : PySem.W.hasDictIn K C = true)
    (ha : PySem.W.findIn K (.ref C) "__class__" = some (some (.builtin "object.__class__"))) (hn : PySem.W.specialIn K (.builtin "object.__class__") "__get__" = some (some (.builtin "getset_descriptor.__get__")))
    (ht : PySem.W.takesIn K (.builtin "object.__class__") = some true) (hm : PySem.W.mroIn K C (.type "object") = some true) : ExG K mg nm := by
  have e := exA_of g
  exact ⟨by rw [e]; exact g, by rw [e]; exact k, by rw [e]; exact b, by rw [e]; exact t, by rw [e]; exact ⟨hg, hk, b, hd, ha, hn, ht, hm⟩⟩
theorem ExG.exm {K : PySem.W.Frag} {mg : Str → Option Value} {nm : Str} (h : ExG K mg nm) {cls : Value} {b : Bool} (s : PySem.W.subIn K cls (.ref (exA mg nm)) = some b) : PySem.W.exmOne K cls (.ref (exA mg nm)) = some b := PySem.W.exm_ref h.b h.c.hd h.t s
theorem ExG.xf {K : PySem.W.Frag} {mg : Str → Option Value} {nm : Str} (h : ExG K mg nm) : XfC K (exA mg nm) := ⟨h.c.hg, h.c.hk, h.b, h.c.hd⟩
/-- its __init__, with its promise -/
structure ExI (P : Program) (w : World) (K : PySem.W.Frag) (mg : Str → Option Value) (base : Heap) (CX : CXT) (k : Nat) (fI : Addr) (fd : FuncData) (C : Addr) (ps : List Str) (sp : Sp) : Prop where
  T : OexC K C
  i : PySem.W.findIn K (.ref C) "__init__" = some (some (.ref fI))
  t : PySem.W.typeIn K (.ref fI) = some (.type "function")
  F : FnOk P w K mg base CX k fI fd ps sp
  b : L2.Binds K fd ps []
theorem FunS.binds {K : PySem.W.Frag} {x qual : Str} {st : Stmt} {f cc cda : Addr} {fd : FuncData} {ps : List Str} (F : FunS K x qual st f fd cc cda)
    (h : ∀ (kV doc pm : Value) (an : Option Addr) (ct : Value) (us : List Value), us.length = ps.length → bindArgs (PySem.W.ksFn x qual (defArgs st) (defBody st) (defScope st) .none kV doc pm an (.ref cda) ct cc) ⟨us, []⟩ = pure (ps.zip us)) : L2.Binds K fd ps [] := by
  obtain ⟨oc, od, kV, doc, pm, an, ct, osl, rfl, lk, hcd⟩ := F.ex
  exact L2.Binds.all fun us hl => h kV doc pm an ct us hl
theorem exci_by {X : Cx} {e : Expr} {rest : List Stmt} {ta : TA} {tr : TS} {vs : List V} {H : Hp} {C : Addr} {σ : L2.St} {D : Ends} (h1 : PA X [e] ta) (h2 : PSs X rest tr)
    (h : ∃ a, vs[0]? = some (.ref a) ∧ H a = some (exo a C none) ∧ ∀ R : List V → Hp → Prop, (∀ us H1, us.length ≤ 1000 → H1 a = some (exo a C none) → tr D σ H1 → R us H1) → ta σ H R) :
    ∃ (a : Addr) (ta : TA) (tr : TS), PA X [e] ta ∧ PSs X rest tr ∧ vs[0]? = some (.ref a) ∧ H a = some (exo a C none) ∧ ∀ R : List V → Hp → Prop, (∀ us H1, us.length ≤ 1000 → H1 a = some (exo a C none) → tr D σ H1 → R us H1) → ta σ H R := by
  obtain ⟨a, q1, q2, q3⟩ := h
  exact ⟨a, ta, tr, h1, h2, q1, q2, q3⟩
theorem passN {P : Program} {w : World} {X : Cx} : Passes (L2.CX P w) X (fun _ _ _ => False) := fun pins σ H s e s' I h => by
  obtain ⟨_, _, _, _, _, _, _, _, _, _, _, _, z⟩ := h
  exact z.elim
/-- the promise of an __init__ that keeps one thing as the field fld -/
def spSup (C : Addr) (fld : Str) (ok : V → Prop) : Sp := fun vs H Q _ => vs.length = 2 ∧ ∃ (a : Addr) (x : V), vs = [.ref a, x] ∧ ok x ∧ H a = some (exo a C none) ∧ ∀ dx, H dx = none → dx ≠ a → Q .non (upd (upd H dx (exd dx [(fld, x)])) a (exo a C (some dx)))
theorem mkO_fin {C : Addr} {fld : Str} {ok : V → Prop} {x : V} {H1 : Hp} {Q : XK} {E : XK} (hx : ok x) (h : ∀ d, H1 d = none → Q (.ref C) (some d) (upd H1 d (.xd [(fld, x)]))) :
    ([x] : List V).length ≤ 1000 ∧ ∀ a, H1 a = none → spSup C fld ok (.ref a :: ([x] ++ [])) (upd H1 a (exo a C none))
      (fun v H2 => v = .non ∧ ∃ (d : Addr) (fs : List (Str × V)), H2 a = some (exo a C (some d)) ∧ H2 d = some (exd d fs) ∧ H1 d = none ∧ Q (.ref C) (some d) (upd (del H2 a) d (.xd fs))) E := by
  refine ⟨by simp, fun a ha => ⟨rfl, a, x, rfl, hx, upd_same, fun dx hd hne => ⟨rfl, dx, [(fld, x)], upd_same, by rw [upd_ne hne, upd_same], by rw [upd_ne hne] at hd; exact hd, ?_⟩⟩⟩
  have hd' : H1 dx = none := by rw [upd_ne hne] at hd; exact hd
  have e : upd (del (upd (upd (upd H1 a (exo a C none)) dx (exd dx [(fld, x)])) a (exo a C (some dx))) a) dx (.xd [(fld, x)]) = upd H1 dx (.xd [(fld, x)]) := by
    funext b
    by_cases hb : b = dx
    · rw [hb, upd_same, upd_same]
    · rw [upd_ne hb, upd_ne hb]
      by_cases hba : b = a
      · rw [hba, del_same, ha]
      · rw [del_ne hba, upd_ne hba, upd_ne hb, upd_ne hba]
  rw [e]
  exact h dx hd'
theorem s_mkO {C : Addr} {sp : Sp} {dvs : List V} {ta : TA} {σ : L2.St} {H : Hp} {Q : XK} (h : ta σ H fun vs H1 => vs.length ≤ 1000 ∧ ∀ a, H1 a = none → sp (.ref a :: (vs ++ dvs)) (upd H1 a (exo a C none))
  (fun v H2 => v = .non ∧ ∃ (d : Addr) (fs : List (Str × V)), H2 a = some (exo a C (some d)) ∧ H2 d = some (exd d fs) ∧ H1 d = none ∧ Q (.ref C) (some d) (upd (del H2 a) d (.xd fs))) (fun _ _ _ => False)) : tMkO C sp dvs ta σ H Q := h
/-- self.f = e, the first field -/
theorem ost_fin {K : PySem.W.Frag} {f : Str} {a C : Addr} {y : V} {to te : TE} {D : Ends} {σ : L2.St} {H : Hp} (T : OexC K C) (hno : PySem.W.findIn K (.ref C) f = some none) (e : H a = some (exo a C none)) (h1 : ∀ Q, Q y H → te σ H Q) (h2 : ∀ Q, Q (.ref a) H → to σ H Q)
    (h : ∀ dx, H dx = none → dx ≠ a → D.nx σ (upd (upd H dx (exd dx [(f, y)])) a (exo a C (some dx)))) : tOst K f to te D σ H :=
  h1 _ (h2 _ ⟨a, C, rfl, T, hno, .inl ⟨e, h⟩⟩)
end Sup3
section StrX
open PyProof.Rows PySem
variable {X : Cx}
/-- text * number -/
def rSMul : R2 := fun x y H Q => ∃ (a : Str) (n : Int), x = .str a ∧ y = .int n ∧ MulOk a n ∧ Q (.str (Txt.mul a n)) H
theorem op_smul : OpR X (binaryOp .Mult) rSMul := by
  intro pins s σ H x y v u Q I rx ry h
  obtain ⟨a, n, e1, e2, ok, q⟩ := h
  subst e1 e2
  obtain ⟨t, e⟩ := rx
  obtain ⟨t2, e2⟩ := ry
  subst e e2
  exact SB.mul ok fun t' k => ⟨.str (Txt.mul a n), H, I.tok k, ⟨t', rfl⟩, q⟩
theorem mul_ok {a : Str} {n : Int} (h0 : 0 ≤ n) (h1 : n ≤ 1000) (ha : a.length ≤ 1000) : MulOk a n := by
  have hp : a.length * n.toNat ≤ 1000 * 1000 := Nat.mul_le_mul ha (by omega)
  refine ⟨?_, fun c _ => ?_, fun _ _ => ?_⟩
  · rw [Bool.or_eq_false_iff]
    exact ⟨decide_eq_false (by omega), decide_eq_false (by omega)⟩
  · have h2 : (1000 : Int) * 1 ≤ (2 ^ 63 - 1) / n := by
      rw [Int.le_ediv_iff_mul_le (by omega)]
      omega
    omega
  · unfold Builtin.Str.tooLong
    have e : sizeLine = 16777216 := by decide
    simp only [decide_eq_false_iff_not]
    omega
theorem mul_len {a : Str} {n : Int} (h0 : 0 ≤ n) : (Txt.mul a n).length = a.length * n.toNat := by
  have key : ∀ (k : Nat) (b : Array Nat), ((List.replicate k a.cps).foldl (· ++ ·) b).size = b.size + a.cps.size * k := by
    intro k
    induction k with
    | zero => intro b; simp
    | succ k ih =>
      intro b
      rw [List.replicate_succ, List.foldl_cons, ih, Array.size_append, Nat.mul_succ]
      omega
  unfold Txt.mul
  by_cases h1 : n < 1
  · rw [if_pos h1]
    have : n.toNat = 0 := by omega
    rw [this]; rfl
  · rw [if_neg h1]
    by_cases h2 : (n == 1 || a.length == 0) = true
    · rw [if_pos h2]
      rw [Bool.or_eq_true, beq_iff_eq, beq_iff_eq] at h2
      rcases h2 with h2 | h2
      · rw [h2]; simp
      · rw [h2]; simp
    · rw [if_neg h2]
      show Array.size _ = _
      rw [key]; simp; rfl
theorem mul_zero' (a : Str) : Txt.mul a 0 = Str.empty := rfl
/-- sorted(text): its signs -/
def rSortZ : List V → Hp → VK → Prop := fun xs H Q => ∃ z : Str, xs = [.str z] ∧ z.length < 64 ∧ ∀ (ys : List Str) (p : Addr), ys.Perm (z.cps.toList.map fun c => (⟨#[c]⟩ : Str)) → sortedS ys = true → H p = none → Q (.ref p) (upd H p (.lst (ys.map V.str)))
theorem cr_sortedZ (hc : X.calm = true) : CallR X (.builtin "sorted") rSortZ := by
  intro pins s σ H xs us Q I r h
  obtain ⟨z, ex, h64, q⟩ := h
  subst ex
  obtain ⟨u, eu, t, et⟩ := vals1 r
  subst eu et
  have hz64 : z.cps.size < 64 := h64
  refine Calls.call_function_entry PyProof.Rows.kind_sorted PyProof.Rows.plain_sorted PyProof.Rows.entry_sorted (PyProof.Rows.args_sorted1 _) ?_
  unfold Builtin.«sorted»
  refine wpAny_bind (m := checkCount "sorted" 1 1 _) (wpAny_pure ?_)
  refine wpAny_bind (wpAny_collect_str (A := X.A.in1) (I.ok.hd hc) z t (fun s' acc hk hg hdr hos hacc => ?_) (Nat.le_trans (Nat.le_of_lt hz64) (by decide)))
  have es : s' = { s with heap := s'.heap, toks := s'.toks } := by
    cases s'
    cases s
    simp only at hg hdr hos ⊢
    subst hg hdr hos
    rfl
  have hal : acc.toList.length = (z.cps.toList.map fun c => (⟨#[c]⟩ : Str)).length := by rw [Array.length_toList, hacc.1, List.length_map, Array.length_toList]
  have hS : StrsAre acc.toList (z.cps.toList.map fun c => (⟨#[c]⟩ : Str)) := L2.strs_at hal fun j v e => by
    obtain ⟨c, w', g1, g2⟩ := hacc.2 j v (by rw [← Array.getElem?_toList]; exact e)
    exact ⟨⟨#[c]⟩, w', by rw [List.getElem?_map, Array.getElem?_toList, g1]; rfl, g2⟩
  have h64' : acc.toList.length < 64 := by rw [hal, List.length_map, Array.length_toList]; exact hz64
  have I1 : Inv X pins σ H s' := by rw [es]; exact I.kept hk
  refine wpAny_bind (wpAny_newList ?_ (by rw [sizeLine_eq]; omega))
  have hoL : (s'.heap.push (seqObj "list" acc.toList.toArray 0)).get? s'.heap.objs.size = some (seqObj "list" acc.toList.toArray 0) := Heap.get?_push_size _ rfl
  show wpAny _ _ _ _ _ { s' with heap := s'.heap.push (seqObj "list" acc.toList.toArray 0) }
  refine wpAny_bind (wpAny_holding (wpAny_call_entry PyProof.Rows.slot_list_sort ⟨_, hoL, rfl⟩ PyProof.Rows.entry_list_sort (list_sort_treeK strKind_oneLt (s := { s' with heap := s'.heap.push (seqObj "list" acc.toList.toArray 0) }) hoL hS.keysOf (fun v₁ v₂ rest e => keyKind_strs (by rw [← e]; exact hS)) h64' fun st' hp hs => ⟨_, rfl, ?_⟩) (PyProof.Rows.args_list_sort _)))
  obtain ⟨ys, g1, g2, g3⟩ := sorted_out_str hS hp hs
  obtain ⟨e', he'⟩ := PyProof.Rows.sortedHeap_at (vs := acc.toList) (out := (arrOf st').map (·.2)) hoL
  have hlen : (ys.map V.str).length ≤ sizeLine := by
    rw [List.length_map, g2.length_eq, ← hal]
    exact Nat.le_trans (Nat.le_of_lt h64') (by decide)
  refine wpAny_pure ⟨_, rfl, .ref s'.heap.objs.size, upd H s'.heap.objs.size (.lst (ys.map V.str)), I1.laid (t' := s'.toks) (fun b u e => ?_) (Nat.le_refl _) (show ObjOk X.prog X.w _ _ _ (.lst (ys.map V.str)) from ⟨hlen, ((arrOf st').map (·.2)).toList, e', L2.vals_of_strs g1, by rw [Array.toArray_toList]; exact he'⟩), rfl, q ys _ g2 g3 (I1.hok.fresh (Nat.le_refl _))⟩
  have hb : b < s'.heap.objs.size := Heap.lt_size e
  rw [PyProof.Rows.sortedHeap_old (Nat.ne_of_lt hb) (by rw [size_push']; exact Nat.lt_succ_of_lt hb)]
  exact Heap.get?_push_of_some _ e
end StrX
section K36R
open PyProof.Rows PySem PySem.Spec
variable {X : Cx}
/-! ### min of a tuple of ints -/
section
variable {prog : Program} {w : World} {A : Around} {E : Value → Shared → Prop} {s : Shared} {l : Addr} {xs : Array (Int × Tok)}
theorem min_intTup {Q : Value → Shared → Prop} (hh : A.handled = none) (hl : s.heap.IsTuple l (intItems xs)) (hne : 0 < xs.size)
    (h : ∀ v h' tk, (intItems xs)[argBest (fun i j => decide (numAt xs i < numAt xs j)) (xs.size - 1)]? = some v → (∀ b o, s.heap.get? b = some o → h'.get? b = some o) → Q v { s with heap := h', toks := tk }) :
    wpAny (model prog w) A (call (.builtin "min") [.ref l]) Q E s := by
  have hlt : l < s.heap.objs.size := by obtain ⟨_, e, _⟩ := hl; exact Heap.lt_size e
  refine call_min_walk (wpAny_pyIter_tuple hl ?_)
  refine ⟨s.heap.objs.size, _, _, _, _, _, _, rfl, Walks.tuple (A := A.in1) hh _ l (Nat.ne_of_lt hlt) (intItems xs), ⟨⟨_, Heap.get?_push_size _ rfl, rfl, rfl⟩, hl.at fun o e => Heap.get?_push_of_some _ e⟩, fun b hb => ?_, by simpa [intItems] using hne, CmpOf.ints_lt (numAt xs) (fun _ _ => intItems_at), fun v h' tk hP hk => ?_⟩
  · show b < (s.heap.push _).objs.size
    rw [Heap.size_push]
    rcases List.mem_cons.mp hb with rfl | hb
    · exact Nat.lt_succ_self _
    · rcases List.mem_cons.mp hb with rfl | hb
      · exact Nat.lt_succ_of_lt hlt
      · cases hb
  · exact h v h' tk (by simpa [intItems] using hP) fun b o e => hk b o (by
      simp only [List.mem_singleton]
      intro z
      rw [z] at e
      exact absurd (Heap.lt_size e) (Nat.lt_irrefl _)) (Heap.get?_push_of_some _ e)
theorem min_rawT {its : List Value} {ns : List Int} {Q : Value → Shared → Prop} (hh : A.handled = none) (hl : s.heap.IsTuple l its.toArray) (hi : IntsAre its ns) (hne : 0 < ns.length)
    (h : ∀ h' tk M t', (∀ b o, s.heap.get? b = some o → h'.get? b = some o) → M ∈ ns → (∀ a, a ∈ ns → M ≤ a) → Q (.int M t') { s with heap := h', toks := tk }) : wpAny (model prog w) A (call (.builtin "min") [.ref l]) Q E s := by
  obtain ⟨xs, e⟩ := hi.allInts.items
  have hn : numsOf (intItems xs).toList = ns := by rw [← e]; exact hi.numsOf
  rw [nums_intItems] at hn
  subst hn
  rw [e] at hl
  have hsz : 0 < xs.size := by simpa using hne
  refine min_intTup hh hl hsz fun v h' tk hv hk => ?_
  obtain ⟨t, rfl⟩ := intItems_at hv
  obtain ⟨h1, h2⟩ := argBest_lt (numAt xs) (xs.size - 1)
  refine h h' tk _ t hk ?_ fun a ha => ?_
  · rw [numAt_eq]; exact PySem.getD_mem (by rw [List.length_map, Array.length_toList]; omega)
  · obtain ⟨j, hj, rfl⟩ := mem_getD ha
    rw [List.length_map, Array.length_toList] at hj
    rw [← numAt_eq]; exact h2 j (by omega)
end
def rMinN (K : PySem.W.Frag) : List V → Hp → VK → Prop := fun vs H Q => ∃ (a : Addr) (ns : List Int), vs = [V.ref a] ∧ SqN K H a ns ∧ 0 < ns.length ∧ ∀ m, m ∈ ns → (∀ y, y ∈ ns → m ≤ y) → Q (.int m) H
theorem c_minN (K : PySem.W.Frag) (eK : X.K = K) (hc : X.calm = true) : CallR X (.builtin "min") (rMinN K) := by
  subst eK
  intro pins s σ H vs us Q I r h
  obtain ⟨a, ns, e, hs, hne, q⟩ := h
  rcases hs with hs | hs
  · exact cr_min hc pins s σ H vs us Q I r ⟨a, ns, e, hs, hne, q⟩
  · subst e
    obtain ⟨its, rv, hl, _⟩ := I.tuple hs
    rw [Vals.ref1 r]
    exact min_rawT (I.ok.hd hc) hl rv.ints hne fun h' tk m t' hk h1 h2 => ⟨.int _, H, I.kept hk, ⟨_, rfl⟩, q m h1 h2⟩
/-! ### text[::-1] -/
theorem rev_len : ∀ n : Nat, n < 64 → (Builtin.Str.strSliceIndices none none (-1) n).length ≤ n := by decide +kernel
def tSlRev (te ts : TE) : TE := fun σ H Q => te σ H fun x H1 => ts σ H1 fun y H2 => ∃ z : Str, x = .str z ∧ y = .int (-1) ∧ z.length < 64 ∧ ∀ r : Str, r.length ≤ z.length → (∀ c ∈ r.cps.toList, c ∈ z.cps.toList) → Q (.str r) H2
theorem pe_slRev {e st : Expr} {te ts : TE} {p2 pos : Pos} (he : PE X e te) (hs : PE X st ts) : PE X (.Subscript e (.Slice none none (some st) p2) pos) (tSlRev te ts) := by
  refine ⟨fun pins s σ H Q I h => ?_⟩
  refine Subscript_ (thn (he.run pins s σ H _ I h) fun v s1 ⟨x, H1, I1, r1, q1⟩ => ?_)
  refine wpAny_Slice ?_
  rw [evalPart_none]
  refine wpAny_pure (wpAny_pure ?_)
  rw [evalPart_some]
  refine thn (hs.run pins s1 σ H1 _ I1 q1) fun vs s2 ⟨y, H2, I2, r2, q2⟩ => ?_
  obtain ⟨z, e1, e2, hz, q⟩ := q2
  subst e1 e2
  obtain ⟨t, e1⟩ := r1
  obtain ⟨t2, e2⟩ := r2
  subst e1 e2
  have I4 : Inv X pins σ H2 { s2 with heap := s2.heap.push { cls := .type "slice", data := .fields #[.none, .none, .int (-1) t2] } } := I2.kept (t' := s2.toks) fun b ob q => Heap.get?_push_of_some _ q
  show wpAny (model X.prog X.w) X.A (subscriptTail e (.Slice none none (some st) p2) (.str z t) (.ref s2.heap.objs.size)) (EP X pins σ Q) X.xe _
  refine tail_any (ops := [.ref s2.heap.objs.size, .str z t]) (typeIs_str _ _ _) F.slot_str_getitem.lookup ?_ (by with_unfolding_all rfl)
  refine wpAny_getItem_str_slice (l := none) (u := none) (st := some (-1, t2)) ⟨_, Heap.get?_push_size _ rfl, rfl, rfl⟩ rfl ?_
  have hl : (((Builtin.Str.strSliceIndices none none (-1) z.length).filterMap (z.cps[·]?)).toArray).size ≤ z.length := by
    rw [List.size_toArray]
    exact Nat.le_trans (List.length_filterMap_le _ _) (rev_len _ hz)
  show Made.post (if ((-1 : Int) == 1 && (Builtin.Str.strSliceIndices none none (-1) z.length).length == z.length) = true then Made.val (.str z t)
    else Made.str ⟨((Builtin.Str.strSliceIndices none none (-1) z.length).filterMap (z.cps[·]?)).toArray⟩) (EP X pins σ Q) _
  rw [if_neg (by simp)]
  refine ⟨Nat.le_trans hl (by rw [sizeLine_eq]; omega), .str _, H2, I4.tok _, ⟨_, rfl⟩, q _ hl fun c hc => ?_⟩
  obtain ⟨i, _, hi⟩ := List.mem_filterMap.mp (show c ∈ (Builtin.Str.strSliceIndices none none (-1) z.length).filterMap (z.cps[·]?) from hc)
  exact Array.mem_toList_iff.mpr (Array.mem_of_getElem? hi)
/-! ### an own class made in a try -/
def tMakeS (C : Addr) (sp : Sp) (E : L2.St → XK) (t : TA) : TE := fun σ H Q => t σ H fun vs H1 => ∀ x dx, H1 x = none → H1 dx = none → dx ≠ x → sp (.ref x :: (vs ++ [])) (upd (upd H1 dx (.own x)) x (.ins C dx [])) (fun v H2 => v = .non ∧ Q (.ref x) H2) (E σ)
theorem run_makeS {CX : CXT} {k : Nat} {f C : Addr} {fd : FuncData} {ps : List Str} {sp : Sp} {E : L2.St → XK} {pins : List (Addr × Obj)} {σ : L2.St} {H : Hp} {s : Shared} {Q : VK} {us ds : List Value} {vs dvs : List V} (M : Mk X.K C f) (F : FnOk X.prog X.w X.K X.mg X.base CX k f fd ps sp) (hr : Room (k + 1) X.A) (hb : Binds X.K fd ps ds) (hd : Vals dvs ds)
    (hx : PassesAt CX X σ (E σ)) (I : Inv X pins σ H s) (r : Vals vs us)
    (h : ∀ x dx, H x = none → H dx = none → dx ≠ x → sp (.ref x :: (vs ++ dvs)) (upd (upd H dx (.own x)) x (.ins C dx [])) (fun v H2 => v = .non ∧ Q (.ref x) H2) (E σ)) :
    wpAny (model X.prog X.w) X.A (call (.ref C) us) (EP X pins σ Q) X.xe s := by
  have hq := h (s.heap.objs.size + 1) s.heap.objs.size (I.hok.fresh (Nat.le_succ _)) (I.hok.fresh (Nat.le_refl _)) (Nat.ne_of_lt (Nat.lt_succ_self _))
  have I2 := Inv.made (C := C) I
  have r2 : Vals (V.ref (s.heap.objs.size + 1) :: (vs ++ dvs)) (Value.ref (s.heap.objs.size + 1) :: (us ++ ds)) := .cons rfl (r.append hd)
  have hl : (Value.ref (s.heap.objs.size + 1) :: us ++ ds).length = ps.length := by
    have e := r2.length
    rw [F.len _ _ _ _ hq] at e
    exact e.symm
  refine wpAny_call (make_map (f := f) I.kIn M.makes M.init (beq_iff_eq.mp M.fn) (codeAny_mono (F.run _ X.stack _ _ ⟨Value.ref (s.heap.objs.size + 1) :: us, []⟩ (Value.ref (s.heap.objs.size + 1) :: (us ++ ds)) _ _ (E σ) (hr.make C us [])
    (I2.env0.make C us []) (hb _ (Value.ref (s.heap.objs.size + 1) :: us) I2.kIn hl) r2 hq) fun r s' hq' => ?_))
  cases r with
  | error e => exact hx pins _ _ e s' I2 hq'
  | ok fl =>
    cases fl with
    | ret u =>
      obtain ⟨v, H', I3, rv, ev, q3⟩ := I2.after hq'
      subst ev
      exact ⟨rv, ⟨V.ref (s.heap.objs.size + 1), H', I3, rfl, q3⟩⟩
    | next => exact False.elim hq'
    | brk => exact False.elim hq'
    | cont => exact False.elim hq'
theorem pe_makeS {CX : CXT} {k : Nat} {f C : Addr} {fd : FuncData} {ps : List Str} {sp : Sp} {E : L2.St → XK} {x : Str} {p pos : Pos} {e : Expr} {es : List Expr} {t : TA} (M : Mk X.K C f) (F : FnOk X.prog X.w X.K X.mg X.base CX k f fd ps sp) (hr : Room (k + 1) X.A) (hg : Gl X x) (hm : X.mg x = some (.ref C)) (hb : Binds X.K fd ps []) (hx : ∀ σ, PassesAt CX X σ (E σ))
    (ha : PA X (e :: es) t) (hdb : (x == ("__debug__" : Str)) = false := by decide) (he : starEach (e :: es) X.env = (false, eval e X.env) :: starEach es X.env := by rfl) (hpl : (backTo pos (starEach es X.env)).any (·.1) = false := by rfl) :
    PE X (.Call (.Name x p) (e :: es) [] pos) (tMakeS C sp E t) := by
  refine ⟨fun pins s σ H Q I h => ?_⟩
  refine wpAny_Call_Name_kw (ld_glob I hg hm ?_ hdb)
  refine PySem.W.callWith_K (h₀ := X.base) I.ok.mod.kin M.kp (thn (ha.run pos pins s σ H _ I h) fun us s1 ⟨vs, H1, I1, r, q⟩ => ⟨I1.kIn, ?_⟩) he hpl
  exact run_makeS M F hr hb .nil (hx σ) I1 r q
/-! ### signs counted -/
theorem occ_cnt (x : Str) (c hi lim : Nat) (hx : x.length ≤ hi) : ∀ (l : List Nat) (st : Array Nat × Nat), List.Pairwise (· < ·) l → (∀ i ∈ l, st.2 ≤ i) → st.1.size + l.length ≤ lim →
    ((forIn l st (PySem.StrLaws.occBody x ⟨#[c]⟩ x.length lim)).run.fst).size = st.1.size + (l.filter fun i => decide (x.cps.toList[i]? = some c)).length
  | [], st, _, _, _ => by simp
  | a :: l, st, hp, hf, hl => by
    rw [List.forIn_cons]
    unfold PySem.StrLaws.occBody
    rw [List.pairwise_cons] at hp
    rw [List.length_cons] at hl
    have ha := hf a (List.mem_cons_self ..)
    have e1 := PySem.StrLaws.subAt_one x c a
    by_cases hc : x.cps.toList[a]? = some c
    · obtain ⟨h1, h2⟩ := e1.mpr hc
      rw [if_pos ⟨⟨⟨by omega, ha⟩, h1⟩, h2⟩]
      have ih := occ_cnt x c hi lim hx l (st.1.push a, a + 1) hp.2 (fun i hi => hp.1 i hi) (by rw [Array.size_push]; omega)
      rw [Array.size_push] at ih
      rw [List.filter_cons, if_pos (by simpa using hc), List.length_cons]
      refine Eq.trans ih (by omega)
    · rw [if_neg (fun h => hc (e1.mp ⟨h.1.2, h.2⟩))]
      have ih := occ_cnt x c hi lim hx l st hp.2 (fun i hi => hf i (List.mem_cons_of_mem _ hi)) (by omega)
      rw [List.filter_cons, if_neg (by simpa using hc)]
      exact ih
theorem cnt_range (l : List Nat) (c : Nat) : ((List.range' 0 (l.length + 1)).filter fun i => decide (l[i]? = some c)).length = l.count c := by
  have key : ∀ (l : List Nat) (o : Nat) (p : List Nat), p.length = o → ((List.range' o (l.length + 1)).filter fun i => decide ((p ++ l)[i]? = some c)).length = l.count c := by
    intro l
    induction l with
    | nil =>
      intro o p hp
      subst hp
      simp
    | cons b l ih =>
      intro o p hp
      have h := ih (o + 1) (p ++ [b]) (by simp [hp])
      rw [List.append_assoc, List.singleton_append] at h
      rw [List.length_cons, show l.length + 1 + 1 = (l.length + 1) + 1 from rfl, List.range'_succ, List.filter_cons, List.count_cons, ← h]
      have e : (p ++ b :: l)[o]? = some b := by subst hp; simp
      rw [e]
      by_cases hb : b = c
      · subst hb; simp
      · rw [if_neg (by simpa using hb), if_neg (by simpa using hb)]; rfl
  simpa using key l 0 [] rfl
theorem count_one (x : Str) (c : Nat) : Txt.count x ⟨#[c]⟩ = ((x.cps.toList.count c : Nat) : Int) := by
  unfold Txt.count
  rw [PySem.StrLaws.occ_eq, Array.length_toList, occ_cnt x c x.length (x.length + 1) (Nat.le_refl _) _ _ List.pairwise_lt_range' (fun _ _ => Nat.zero_le _) (by rw [List.length_range']; simp)]
  have := cnt_range x.cps.toList c
  rw [show x.cps.toList.length = x.cps.size from Array.length_toList] at this
  simp only [Nat.sub_zero]
  rw [show x.length = x.cps.size from rfl, this, List.size_toArray, List.length_nil, Nat.zero_add]
/-! ### isinstance of an own instance -/
structure IsF (K : PySem.W.Frag) (C : Addr) (T : String) : Prop where
  ha : PySem.W.findIn K (.ref C) "__class__" = some (some (.builtin "object.__class__"))
  hn : PySem.W.specialIn K (.builtin "object.__class__") "__get__" = some (some (.builtin "getset_descriptor.__get__"))
  htk : PySem.W.takesIn K (.builtin "object.__class__") = some true
  hm : PySem.W.mroIn K C (.type "object") = some true
  no : PySem.W.kitOne K (.ref C) (.type T) = some false
theorem kit_neT {K : PySem.W.Frag} {C : Addr} {T : String} (m : PySem.W.kitMeta T = true) (ne : ((Value.ref C) == Value.type T) = false) (h : PySem.W.subIn K (.ref C) (.type T) = some false) : PySem.W.kitOne K (.ref C) (.type T) = some false := by
  unfold PySem.W.kitOne
  rw [ne]
  unfold PySem.W.kitCls
  simp only [Bool.false_eq_true, if_false]
  rw [if_pos m]
  exact h
theorem s_isO {K : PySem.W.Frag} {H : Hp} {Q : VK} {a C dx : Addr} {fs : List (Str × V)} {T : String} (e : H a = some (.ins C dx fs)) (cl : Cls K C) (f : IsF K C T) (q : Q (.bl false) H) : rIsi K [.ref a, .ty T] H Q :=
  ⟨.ref a, .ty T, .ref C, .type T, false, rfl, .ty T, .base (.ins e cl f.ha f.hn f.htk f.hm), f.no, q⟩
end K36R
section K36P
open PyProof.Rows PySem
/-! ### lists of texts compared -/
def SgT (t : Str) : Prop := ∀ c ∈ t.cps.toList, c < 1114112
open PyData in
theorem depthAll_strs : ∀ ns : List Str, depthAll (ns.map PyData.str) ≤ 1
  | [] => by simp [depthAll]
  | n :: ns => by
    have := depthAll_strs ns
    simp only [List.map_cons, depthAll, depth]
    omega
theorem strOk_of {n : Str} (h : SgT n) : PyData.strOk n = true := by
  show Array.all n.cps _ = true
  rw [← Array.all_toList, List.all_eq_true]
  exact fun c hc => decide_eq_true (h c hc)
open PyData in
theorem canLay_strs : ∀ ns : List Str, (∀ x ∈ ns, SgT x) → canLayAll0 (ns.map PyData.str) = true
  | [], _ => rfl
  | n :: ns, h => by
    simp only [List.map_cons, canLayAll0, canLay0, canLay_strs ns fun x hx => h x (List.mem_cons_of_mem _ hx), Bool.and_true]
    exact strOk_of (h n (by simp))
theorem shaped_strs (ns : List Str) (hs : ∀ x ∈ ns, SgT x) : SeqAt.shaped (.list (ns.map .str)) = true := by
  have h := depthAll_strs ns
  have e : (PyData.list (ns.map .str)).depth = PyData.depthAll (ns.map .str) + 1 := by rw [PyData.depth]
  exact Bool.and_eq_true_iff.mpr ⟨by rw [PyData.canLay0]; exact canLay_strs ns hs, decide_eq_true (by rw [e]; omega)⟩
theorem dp_all_strs {K : PySem.W.Frag} {H : Hp} : ∀ ns : List Str, DpAll K H (ns.map V.str) (ns.map .str)
  | [] => .nil
  | n :: ns => .cons (.str n) (dp_all_strs ns)
theorem dp_strs {K : PySem.W.Frag} {H : Hp} {a : Addr} {ns : List Str} (h : SqL K H a (ns.map V.str)) : Dp K H (.ref a) (.list (ns.map .str)) := .lst h (dp_all_strs ns)
open PyData in
theorem eqvAll_strs : ∀ ns ms : List Str, eqvAll (ns.map PyData.str) (ms.map PyData.str) = decide (ns = ms)
  | [], [] => rfl
  | [], _ :: _ => by simp [eqvAll]
  | _ :: _, [] => by simp [eqvAll]
  | n :: ns, m :: ms => by
    simp only [List.map_cons, eqvAll, eqv, eqvAll_strs ns ms]
    by_cases h : n = m <;> by_cases h2 : ns = ms <;> simp [h, h2]
theorem s_eqStrs {K : PySem.W.Frag} {H : Hp} {Q : VK} {a b : Addr} {ns ms : List Str} (hn : ∀ x ∈ ns, SgT x) (hm : ∀ x ∈ ms, SgT x) (h1 : SqL K H a (ns.map V.str)) (h2 : SqL K H b (ms.map V.str)) (q : Q (.bl (decide (ns = ms))) H) : rEqD K (.ref a) (.ref b) H Q :=
  s_eqD (dp_strs h1) (dp_strs h2) (shaped_strs _ hn) (shaped_strs _ hm) (by rw [PyData.eqv, eqvAll_strs]; exact q)
theorem s_neStrs {K : PySem.W.Frag} {H : Hp} {Q : VK} {a b : Addr} {ns ms : List Str} (hn : ∀ x ∈ ns, SgT x) (hm : ∀ x ∈ ms, SgT x) (h1 : SqL K H a (ns.map V.str)) (h2 : SqL K H b (ms.map V.str)) (q : Q (.bl (!decide (ns = ms))) H) : rNeD K (.ref a) (.ref b) H Q :=
  ⟨_, _, dp_strs h1, dp_strs h2, shaped_strs _ hn, shaped_strs _ hm, by rw [PyData.eqv, eqvAll_strs]; exact q⟩
/-! ### signs put in order -/
def one (c : Nat) : Str := ⟨#[c]⟩
theorem rising_one : ∀ (zs : List Nat) (p : Nat), PyProof.Rows.risingS (one p) (zs.map one) = true → (p :: zs).Pairwise (· ≤ ·)
  | [], p, _ => by simp
  | x :: r, p, h => by
    rw [List.map_cons, PyProof.Rows.risingS, Bool.and_eq_true] at h
    have hx := rising_one r x h.2
    have hp : p ≤ x := by
      have h1 := h.1
      have e : PySem.Spec.ltCps (one x).cps.toList (one p).cps.toList = decide (x < p) := by
        simp [one, PySem.Spec.ltCps]
      rw [e] at h1
      simpa using h1
    refine List.pairwise_cons.mpr ⟨fun y hy => ?_, hx⟩
    rcases List.mem_cons.mp hy with rfl | hm
    · exact hp
    · exact Nat.le_trans hp ((List.pairwise_cons.mp hx).1 y hm)
theorem sorted_one {zs : List Nat} (h : PyProof.Rows.sortedS (zs.map one) = true) : zs.Pairwise (· ≤ ·) := by
  cases zs with
  | nil => simp
  | cons x r => exact rising_one r x h
theorem ones_of {ys : List Str} {a : List Nat} (p : ys.Perm (a.map one)) : ∃ zs : List Nat, ys = zs.map one ∧ zs.Perm a := by
  refine ⟨ys.map fun y => y.cps.toList.headD 0, ?_, ?_⟩
  · rw [List.map_map]
    have : ∀ y ∈ ys, (one ∘ fun y : Str => y.cps.toList.headD 0) y = y := fun y hy => by
      obtain ⟨c, _, rfl⟩ := List.mem_map.mp (p.mem_iff.mp hy)
      rfl
    rw [List.map_congr_left this, List.map_id']
  · have := p.map fun y : Str => y.cps.toList.headD 0
    rw [List.map_map] at this
    have e : (a.map ((fun y : Str => y.cps.toList.headD 0) ∘ one)) = a := by
      have : ((fun y : Str => y.cps.toList.headD 0) ∘ one) = id := by funext c; rfl
      rw [this, List.map_id]
    rw [e] at this
    exact this
theorem one_inj : ∀ {a b : List Nat}, a.map one = b.map one → a = b := fun {a b} h => by
  have := congrArg (List.map fun y : Str => y.cps.toList.headD 0) h
  rw [List.map_map, List.map_map] at this
  have e : ((fun y : Str => y.cps.toList.headD 0) ∘ one) = id := by funext c; rfl
  rw [e, List.map_id, List.map_id] at this
  exact this
theorem sortZ_iff {a b : List Nat} {ys ws : List Str} (p1 : ys.Perm (a.map one)) (s1 : PyProof.Rows.sortedS ys = true) (p2 : ws.Perm (b.map one)) (s2 : PyProof.Rows.sortedS ws = true) : ys = ws ↔ a.Perm b := by
  obtain ⟨zs, rfl, q1⟩ := ones_of p1
  obtain ⟨us, rfl, q2⟩ := ones_of p2
  constructor
  · intro h
    rw [one_inj h] at q1
    exact q1.symm.trans q2
  · intro h
    have : zs = us := List.Perm.eq_of_pairwise (le := (· ≤ ·)) (fun x y _ _ h1 h2 => Nat.le_antisymm h1 h2) (sorted_one s1) (sorted_one s2) (q1.trans (h.trans q2.symm))
    rw [this]
theorem one_sg {a : List Nat} {ys : List Str} (h : ∀ c ∈ a, c < 1114112) (p : ys.Perm (a.map one)) : ∀ x ∈ ys, SgT x := fun x hx c hc => by
  obtain ⟨d, hd, rfl⟩ := List.mem_map.mp (p.mem_iff.mp hx)
  have : c = d := by simpa [one] using hc
  rw [this]; exact h d hd
/-! ### the things a setting is made of -/
structure Th where
  x0 : Int
  x1 : Int
  y0 : Int
  y1 : Int
  mode : Int
  tx : Int
  ty : Int
  word : Str
  planes : Int
  layers : List Int
  order : Str
def okSide (b e : Int) : Bool := decide (1 ≤ e - b ∧ e - b ≤ 32 ∧ -1073741824 ≤ e ∧ e ≤ 1073741824)
def okPlace (b : Int) : Bool := decide (-1073741824 ≤ b ∧ b ≤ 1073741824)
def cX (w : Str) : Int := (w.cps.toList.count 88 : Nat)
def cY (w : Str) : Int := (w.cps.toList.count 89 : Nat)
def okWord (w : Str) (tx ty : Int) : Bool := decide (cX w + cY w = (w.length : Nat) ∧ cX w ≤ tx ∧ cY w ≤ ty)
def okLay (ls : List Int) (pl : Int) : Bool := decide (1 ≤ ls.length ∧ ls.length ≤ 6 ∧ (∀ x ∈ ls, 1 ≤ x) ∧ ls.sum = 3 * pl)
def okOrd (o : Str) : Bool := decide (o.cps.toList.Perm [66, 67, 76, 84])
def okIn (lo hi x : Int) : Bool := decide (lo ≤ x ∧ x ≤ hi)
def oks (T : Th) : List (Str × Bool) :=
  [("x0", okPlace T.x0), ("width", okSide T.x0 T.x1), ("y0", okPlace T.y0), ("height", okSide T.y0 T.y1), ("mode", okIn 0 2 T.mode), ("tx", okIn 0 5 T.tx), ("ty", okIn 0 5 T.ty), ("word", okWord T.word T.tx T.ty), ("planes", okIn 1 20 T.planes), ("layers", okLay T.layers T.planes), ("order", okOrd T.order)]
def wrongOf (l : List (Str × Bool)) : Str := match l.find? (fun p => !p.2) with
  | some p => p.1
  | none => ""
def wrong (T : Th) : Str := wrongOf (oks T)
theorem wrong_at {l : List (Str × Bool)} {i : Nat} {n : Str} (h : l[i]? = some (n, false)) (hg : ∀ p ∈ l.take i, p.2 = true) : wrongOf l = n := by
  unfold wrongOf
  obtain ⟨hi, e⟩ := List.getElem?_eq_some_iff.mp h
  have : l = l.take i ++ (n, false) :: l.drop (i + 1) := by rw [← e, ← List.drop_eq_getElem_cons hi, List.take_append_drop]
  rw [this, List.find?_append, List.find?_eq_none.mpr (fun p hp => by rw [hg p hp]; decide)]
  simp
theorem wrong_no {l : List (Str × Bool)} (hg : ∀ p ∈ l, p.2 = true) : wrongOf l = "" := by
  unfold wrongOf
  rw [List.find?_eq_none.mpr (fun p hp => by rw [hg p hp]; decide)]
theorem wrong_all {T : Th} (h : wrong T = "") : ∀ p ∈ oks T, p.2 = true := by
  unfold wrong wrongOf at h
  cases e : (oks T).find? (fun p => !p.2) with
  | none =>
    rw [List.find?_eq_none] at e
    exact fun p hp => by simpa using e p hp
  | some p =>
    rw [e] at h
    have hm := List.mem_of_find?_eq_some e
    exfalso
    have : ∀ q ∈ oks T, q.1 ≠ "" := by
      unfold oks
      simp only [List.mem_cons, List.not_mem_nil, or_false]
      rintro q (rfl | rfl | rfl | rfl | rfl | rfl | rfl | rfl | rfl | rfl | rfl) <;> (dsimp only; decide +kernel)
    exact this p hm h
structure Good (T : Th) : Prop where
  x0 : okPlace T.x0 = true
  w : okSide T.x0 T.x1 = true
  y0 : okPlace T.y0 = true
  h : okSide T.y0 T.y1 = true
  mode : 0 ≤ T.mode ∧ T.mode ≤ 2
  tx : 0 ≤ T.tx ∧ T.tx ≤ 5
  ty : 0 ≤ T.ty ∧ T.ty ≤ 5
  word : okWord T.word T.tx T.ty = true
  planes : 1 ≤ T.planes ∧ T.planes ≤ 20
  layers : okLay T.layers T.planes = true
  order : okOrd T.order = true
theorem good_of {T : Th} (h : wrong T = "") : Good T := by
  have g := wrong_all h
  unfold oks at g
  simp only [List.forall_mem_cons] at g
  obtain ⟨a, b, c, d, e, f, i, j, k, l, m, _⟩ := g
  exact ⟨a, b, c, d, of_decide_eq_true e, of_decide_eq_true f, of_decide_eq_true i, j, of_decide_eq_true k, l, m⟩
def chan (T : Th) : Int := if T.mode = 0 then 1 else 3
def tilesX (T : Th) : Int := (T.x1 - 1) / 2 ^ T.tx.toNat - T.x0 / 2 ^ T.tx.toNat + 1
def tilesY (T : Th) : Int := (T.y1 - 1) / 2 ^ T.ty.toNat - T.y0 / 2 ^ T.ty.toNat + 1
def lines (T : Th) : Int := chan T * tilesY T * tilesX T * ((T.word.length : Nat) + 1 : Int)
def pieces (T : Th) : Int := lines T * (T.layers.length : Nat)
end K36P
open PySem L2
/-! one step that needs no thought -/
local macro_rules | `(tactic| walk_at "cond") => `(tactic| first
  | decide
  | exact .inl ⟨by decide, by decide⟩
  | exact .inr ⟨by decide, by decide⟩
  | exact ⟨by decide, by decide⟩
  | exact ⟨by decide, by decide, by decide⟩
  | assumption
  | (show (0 : Int) < _; omega)
  | (show (0 : Int) ≤ _; omega)
  | exact .inl ⟨by omega, by omega⟩
  | exact .inr ⟨by omega, by omega⟩
  | exact ⟨by omega, by omega⟩
  | exact ⟨by omega, by omega, by omega⟩)
local macro_rules | `(tactic| walk_at "sq") => `(tactic| first
  | assumption
  | exact SqL.of (by assumption)
  | exact SqT.of (by assumption)
  | exact SqL.of upd_same
  | exact SqT.of upd_same)
local macro_rules | `(tactic| walk_at "r1") => `(tactic| first
  | (with_reducible refine s_seq ?_)
  | (with_reducible refine s_next ?_)
  | (with_reducible refine s_asg ?_)
  | (with_reducible refine s_gname ?_)
  | (with_reducible refine s_ret ?_)
  | (with_reducible refine s_if ?_)
  | (with_reducible refine s_drop ?_)
  | (with_reducible refine s_op ?_)
  | (with_reducible refine s_c ?_)
  | (with_reducible refine s_tup ?_)
  | (with_reducible refine s_lst ?_)
  | (with_reducible refine s_nil ?_)
  | (with_reducible refine s_cons ?_)
  | (with_reducible refine s_call ?_)
  | (with_reducible refine s_cb ?_)
  | (with_reducible refine s_test ?_)
  | (with_reducible refine s_tB ?_)
  | (with_reducible refine s_b ?_)
  | (with_reducible refine s_not ?_)
  | (with_reducible refine s_and ?_)
  | (with_reducible refine s_or ?_)
  | (with_reducible refine s_un ?_)
  | (with_reducible refine s_U ?_)
  | (with_reducible refine s_ifE ?_)
  | (with_reducible refine s_andV0 ?_)
  | (with_reducible refine s_orV0 ?_)
  | (with_reducible refine s_notV ?_)
  | (with_reducible refine s_I0 ?_)
  | (with_reducible refine s_chain ?_)
  | (with_reducible refine s_par3 ?_)
  | (with_reducible refine s_par ?_)
  | (with_reducible refine s_v2 ?_)
  | (with_reducible refine s_v3 ?_)
  | (with_reducible refine s_eqI ?_)
  | (with_reducible refine s_neI ?_)
  | (with_reducible refine s_eqS ?_)
  | (with_reducible refine s_neS ?_)
  | (with_reducible refine s_max2 ?_)
  | (with_reducible refine s_min2 ?_)
  | (with_reducible refine s_int1 ?_)
  | (with_reducible refine s_int1b ?_)
  | ((with_reducible refine' s_var ?h ?q); (case h => rfl))
  | (with_reducible refine s_for ?_)
  | (with_reducible refine s_iR1 ?_)
  | (with_reducible refine s_iR2 ?_)
  | (with_reducible refine s_iR3 ?_)
  | (with_reducible refine s_sl ?_)
  | (with_reducible refine s_part ?_)
  | (with_reducible refine s_nopart ?_)
  | (with_reducible refine s_iL ?_)
  | (with_reducible refine s_iT ?_)
  | (with_reducible refine s_iS ?_)
  | (with_reducible refine s_lc ?_)
  | (with_reducible refine s_yes ?_)
  | ((with_reducible refine' s_wipe ?h ?q); (case h => rfl))
  | (with_reducible refine s_callK0 ?_)
  | (with_reducible refine s_bits ?_)
  | (with_reducible refine s_i ?_)
  | (with_reducible refine s_bm ?_)
  | (with_reducible refine s_bm0 ?_)
  | (with_reducible refine s_m1 ?_)
  | (with_reducible refine s_callK ?_)
  | (with_reducible refine s_gsub ?_)
  | ((with_reducible refine' s_gtup ?h ?e ?q); (case h => walk_at "sq"); (case e => rfl))
  | (with_reducible refine s_gcons ?_)
  | (with_reducible refine s_gnil ?_)
  | ((with_reducible refine s_I ?c ?q); (case c => walk_at "cond"))
  | ((with_reducible refine' s_ixL ?h ?a ?q); (case h => walk_at "sq"); (case a => rfl))
  | ((with_reducible refine' s_ixT ?h ?a ?q); (case h => walk_at "sq"); (case a => rfl))
  | ((with_reducible refine' s_setL ?h ?a ?q); (case h => first | assumption | exact upd_same); (case a => rfl))
  | ((with_reducible refine' s_len ?h ?q); (case h => walk_at "sq"))
  | ((with_reducible refine' s_lenT ?h ?q); (case h => walk_at "sq"))
  | (with_reducible refine iteT ?_)
  | (with_reducible refine iteF ?_)
  | (with_reducible refine itNF ?_)
  | (with_reducible refine itNT ?_))
local macro_rules | `(tactic| walk_at "r") => `(tactic| (repeat walk_at "r1"))
local macro_rules | `(tactic| walk_at "r1") => `(tactic| (with_reducible refine s_callS ?_))
local macro_rules | `(tactic| walk_at "r1") => `(tactic| first
  | (with_reducible refine s_make ?_)
  | (with_reducible refine s_meth ?_)
  | (with_reducible refine s_prop ?_)
  | (with_reducible refine s_fld ?_)
  | (with_reducible refine s_sfld ?_)
  | (with_reducible refine s_methK0 ?_))
def topS (i : Nat) : Stmt := PySem.Challenge.pw_narrowingbits_k36_settings_refused.main.body.getD i (.Pass ⟨0, 0, 0, 0⟩)
structure Zs (K : PySem.W.Frag) (mg : Str → Option Value) : Prop where
  z_ValueError : mg "ValueError" = none
  z_abs : mg "abs" = none
  z_int : mg "int" = none
  z_isinstance : mg "isinstance" = none
  z_len : mg "len" = none
  z_list : mg "list" = none
  z_max : mg "max" = none
  z_min : mg "min" = none
  z_range : mg "range" = none
  z_sorted : mg "sorted" = none
  z_str : mg "str" = none
  z_sum : mg "sum" = none
  z_super : mg "super" = none
  z_tuple : mg "tuple" = none
  e_MOST_PIECES : ∃ t, mg "MOST_PIECES" = some (.int (2000) t)
  e_MOST_PLACE : ∃ t, mg "MOST_PLACE" = some (.int (1073741824) t)
  e_MOST_SIDE : ∃ t, mg "MOST_SIDE" = some (.int (32) t)
  x_BadField : ExG K mg "BadField"
  x_BadGrid : ExF K mg "BadGrid"
  x_NarrowError : ExF K mg "NarrowError"
  x_TooMany : ExG K mg "TooMany"
  f_BadField_name : PySem.W.findIn K (.ref (exA mg "BadField")) "name" = some none
  f_TooMany_most : PySem.W.findIn K (.ref (exA mg "TooMany")) "most" = some none
  s_BadField_BadField : PySem.W.subIn K (.ref (exA mg "BadField")) (.ref (exA mg "BadField")) = some true
  k_BadField_BadField : PySem.W.kitOne K (.ref (exA mg "BadField")) (.ref (exA mg "BadField")) = some true
  s_BadField_BadGrid : PySem.W.subIn K (.ref (exA mg "BadField")) (.ref (exA mg "BadGrid")) = some false
  k_BadField_BadGrid : PySem.W.kitOne K (.ref (exA mg "BadField")) (.ref (exA mg "BadGrid")) = some false
  s_BadField_NarrowError : PySem.W.subIn K (.ref (exA mg "BadField")) (.ref (exA mg "NarrowError")) = some true
  k_BadField_NarrowError : PySem.W.kitOne K (.ref (exA mg "BadField")) (.ref (exA mg "NarrowError")) = some true
  s_BadField_TooMany : PySem.W.subIn K (.ref (exA mg "BadField")) (.ref (exA mg "TooMany")) = some false
  k_BadField_TooMany : PySem.W.kitOne K (.ref (exA mg "BadField")) (.ref (exA mg "TooMany")) = some false
  s_BadGrid_BadField : PySem.W.subIn K (.ref (exA mg "BadGrid")) (.ref (exA mg "BadField")) = some false
  k_BadGrid_BadField : PySem.W.kitOne K (.ref (exA mg "BadGrid")) (.ref (exA mg "BadField")) = some false
  s_BadGrid_BadGrid : PySem.W.subIn K (.ref (exA mg "BadGrid")) (.ref (exA mg "BadGrid")) = some true
  k_BadGrid_BadGrid : PySem.W.kitOne K (.ref (exA mg "BadGrid")) (.ref (exA mg "BadGrid")) = some true
  s_BadGrid_NarrowError : PySem.W.subIn K (.ref (exA mg "BadGrid")) (.ref (exA mg "NarrowError")) = some true
  k_BadGrid_NarrowError : PySem.W.kitOne K (.ref (exA mg "BadGrid")) (.ref (exA mg "NarrowError")) = some true
  s_BadGrid_TooMany : PySem.W.subIn K (.ref (exA mg "BadGrid")) (.ref (exA mg "TooMany")) = some false
  k_BadGrid_TooMany : PySem.W.kitOne K (.ref (exA mg "BadGrid")) (.ref (exA mg "TooMany")) = some false
  s_NarrowError_BadField : PySem.W.subIn K (.ref (exA mg "NarrowError")) (.ref (exA mg "BadField")) = some false
  k_NarrowError_BadField : PySem.W.kitOne K (.ref (exA mg "NarrowError")) (.ref (exA mg "BadField")) = some false
  s_NarrowError_BadGrid : PySem.W.subIn K (.ref (exA mg "NarrowError")) (.ref (exA mg "BadGrid")) = some false
  k_NarrowError_BadGrid : PySem.W.kitOne K (.ref (exA mg "NarrowError")) (.ref (exA mg "BadGrid")) = some false
  s_NarrowError_NarrowError : PySem.W.subIn K (.ref (exA mg "NarrowError")) (.ref (exA mg "NarrowError")) = some true
  k_NarrowError_NarrowError : PySem.W.kitOne K (.ref (exA mg "NarrowError")) (.ref (exA mg "NarrowError")) = some true
  s_NarrowError_TooMany : PySem.W.subIn K (.ref (exA mg "NarrowError")) (.ref (exA mg "TooMany")) = some false
  k_NarrowError_TooMany : PySem.W.kitOne K (.ref (exA mg "NarrowError")) (.ref (exA mg "TooMany")) = some false
  s_TooMany_BadField : PySem.W.subIn K (.ref (exA mg "TooMany")) (.ref (exA mg "BadField")) = some false
  k_TooMany_BadField : PySem.W.kitOne K (.ref (exA mg "TooMany")) (.ref (exA mg "BadField")) = some false
  s_TooMany_BadGrid : PySem.W.subIn K (.ref (exA mg "TooMany")) (.ref (exA mg "BadGrid")) = some false
  k_TooMany_BadGrid : PySem.W.kitOne K (.ref (exA mg "TooMany")) (.ref (exA mg "BadGrid")) = some false
  s_TooMany_NarrowError : PySem.W.subIn K (.ref (exA mg "TooMany")) (.ref (exA mg "NarrowError")) = some true
  k_TooMany_NarrowError : PySem.W.kitOne K (.ref (exA mg "TooMany")) (.ref (exA mg "NarrowError")) = some true
  s_TooMany_TooMany : PySem.W.subIn K (.ref (exA mg "TooMany")) (.ref (exA mg "TooMany")) = some true
  k_TooMany_TooMany : PySem.W.kitOne K (.ref (exA mg "TooMany")) (.ref (exA mg "TooMany")) = some true
  v_BadField : PySem.W.kitOne K (.ref (exA mg "BadField")) (.type "ValueError") = some true
  v_BadGrid : PySem.W.kitOne K (.ref (exA mg "BadGrid")) (.type "ValueError") = some true
  v_NarrowError : PySem.W.kitOne K (.ref (exA mg "NarrowError")) (.type "ValueError") = some true
  v_TooMany : PySem.W.kitOne K (.ref (exA mg "TooMany")) (.type "ValueError") = some true
  o_Setting : ClF K mg "Setting"
  n_Setting__rect : NoAttr K (exA mg "Setting") "_rect"
  n_Setting_layers : NoAttr K (exA mg "Setting") "layers"
  n_Setting_mode : NoAttr K (exA mg "Setting") "mode"
  n_Setting_order : NoAttr K (exA mg "Setting") "order"
  n_Setting_planes : NoAttr K (exA mg "Setting") "planes"
  n_Setting_tx : NoAttr K (exA mg "Setting") "tx"
  n_Setting_ty : NoAttr K (exA mg "Setting") "ty"
  n_Setting_word : NoAttr K (exA mg "Setting") "word"
  i_Setting_str : IsF K (exA mg "Setting") "str"
theorem Zs.c_MOST_PIECES {K : PySem.W.Frag} {mg : Str → Option Value} (Z : Zs K mg) : mg "MOST_PIECES" = some (.int (2000) (Classical.choose Z.e_MOST_PIECES)) := Classical.choose_spec Z.e_MOST_PIECES
theorem Zs.c_MOST_PLACE {K : PySem.W.Frag} {mg : Str → Option Value} (Z : Zs K mg) : mg "MOST_PLACE" = some (.int (1073741824) (Classical.choose Z.e_MOST_PLACE)) := Classical.choose_spec Z.e_MOST_PLACE
theorem Zs.c_MOST_SIDE {K : PySem.W.Frag} {mg : Str → Option Value} (Z : Zs K mg) : mg "MOST_SIDE" = some (.int (32) (Classical.choose Z.e_MOST_SIDE)) := Classical.choose_spec Z.e_MOST_SIDE
def rectV (T : Th) : List V := [.int T.x0, .int T.x1, .int T.y0, .int T.y1]
def setFs (r l : Addr) (T : Th) : List (Str × V) := [("_rect", .ref r), ("mode", .int T.mode), ("tx", .int T.tx), ("ty", .int T.ty), ("word", .str T.word), ("planes", .int T.planes), ("layers", .ref l), ("order", .str T.order)]
structure SetO (K : PySem.W.Frag) (mg : Str → Option Value) (H : Hp) (p dx r l : Addr) (T : Th) : Prop where
  o : H p = some (.ins (exA mg "Setting") dx (setFs r l T))
  r : H r = some (.tup (rectV T))
  l : SqT K H l (T.layers.map V.int)
theorem SetO.mono {K : PySem.W.Frag} {mg : Str → Option Value} {H H' : Hp} {p dx r l : Addr} {T : Th} (s : SetO K mg H p dx r l T) (e : Same H H') : SetO K mg H' p dx r l T := ⟨e _ _ s.o, e _ _ s.r, s.l.imp (fun h => h.imp (fun h => e _ _ h) fun ⟨o, h⟩ => ⟨o, e _ _ h⟩) fun h => h⟩
def thV (r l : Addr) (T : Th) : List V := [.ref r, .int T.mode, .int T.tx, .int T.ty, .str T.word, .int T.planes, .ref l, .str T.order]
structure ThO (H : Hp) (a r l : Addr) (T : Th) : Prop where
  a : H a = some (.lst (thV r l T))
  r : H r = some (.tup (rectV T))
  l : H l = some (.lst (T.layers.map V.int))
theorem ThO.mono {H H' : Hp} {a r l : Addr} {T : Th} (s : ThO H a r l T) (e : Same H H') : ThO H' a r l T := ⟨e _ _ s.a, e _ _ s.r, e _ _ s.l⟩
structure ThB (T : Th) : Prop where
  w : T.word.length < 64
  ws : SgT T.word
  l : T.layers.length < 64
  o : T.order.length < 64
  os : SgT T.order
def sp_BadField___init__ (_ : PySem.W.Frag) (mg : Str → Option Value) : Sp := spSup (exA mg "BadField") "name" (fun x => ∃ s : Str, x = .str s ∧ s.length ≤ 1000)
def sp_TooMany___init__ (_ : PySem.W.Frag) (mg : Str → Option Value) : Sp := spSup (exA mg "TooMany") "most" (fun x => x = .int 2000)
def sp_is_word (_ : PySem.W.Frag) (_ : Str → Option Value) : Sp := SpN 3 fun vs H Q _ => ∃ (w : Str) (tx ty : Int), vs = [.str w, .int tx, .int ty] ∧ w.length < 64 ∧ Q (.bl (okWord w tx ty)) H
def sp_are_layers (K : PySem.W.Frag) (_ : Str → Option Value) : Sp := SpN 2 fun vs H Q _ => ∃ (a : Addr) (ls : List Int) (pl : Int), vs = [.ref a, .int pl] ∧ SqN K H a ls ∧ Q (.bl (okLay ls pl)) H
def sp_is_side (_ : PySem.W.Frag) (_ : Str → Option Value) : Sp := SpN 2 fun vs H Q _ => ∃ (b e : Int), vs = [.int b, .int e] ∧ Q (.bl (okSide b e)) H
def sp_Setting___init__ (K : PySem.W.Frag) (mg : Str → Option Value) : Sp := SpN 9 fun vs H Q E => ∃ (F : Hp) (p dx r l : Addr) (T : Th), vs = [.ref p, .ref r, .int T.mode, .int T.tx, .int T.ty, .str T.word, .int T.planes, .ref l, .str T.order] ∧
  H p = some (.ins (exA mg "Setting") dx []) ∧ Same F H ∧ F p = none ∧ SqT K F r (rectV T) ∧ SqN K F l T.layers ∧ ThB T ∧
  (∀ d H', wrong T ≠ "" → Same F H' → H' d = some (.xd [("name", .str (wrong T))]) → E (.ref (exA mg "BadField")) (some d) H') ∧
  (∀ d H', wrong T = "" → 2000 < pieces T → Same F H' → H' d = some (.xd [("most", .int 2000)]) → E (.ref (exA mg "TooMany")) (some d) H') ∧
  (∀ r' l' H', wrong T = "" → ¬ 2000 < pieces T → Same F H' → SetO K mg H' p dx r' l' T → Q .non H')
def sp_Setting_rect (K : PySem.W.Frag) (mg : Str → Option Value) : Sp := SpN 1 fun vs H Q _ => ∃ (p dx r l : Addr) (T : Th), vs = [.ref p] ∧ SetO K mg H p dx r l T ∧ Q (.ref r) H
def sp_channel_count (K : PySem.W.Frag) (mg : Str → Option Value) : Sp := SpN 1 fun vs H Q _ => ∃ (p dx r l : Addr) (T : Th), vs = [.ref p] ∧ SetO K mg H p dx r l T ∧ Q (.int (chan T)) H
def sp_tile_spans (K : PySem.W.Frag) (mg : Str → Option Value) : Sp := SpN 1 fun vs H Q _ => ∃ (p dx r l : Addr) (T : Th), vs = [.ref p] ∧ SetO K mg H p dx r l T ∧ 0 ≤ T.tx ∧ 0 ≤ T.ty ∧
  ∀ q, H q = none → Q (.ref q) (upd H q (.tup [.int (T.y0 / 2 ^ T.ty.toNat), .int ((T.y1 - 1) / 2 ^ T.ty.toNat), .int (T.x0 / 2 ^ T.tx.toNat), .int ((T.x1 - 1) / 2 ^ T.tx.toNat)]))
def sp_line_count (K : PySem.W.Frag) (mg : Str → Option Value) : Sp := SpN 1 fun vs H Q _ => ∃ (p dx r l : Addr) (T : Th), vs = [.ref p] ∧ SetO K mg H p dx r l T ∧ Good T ∧ ThB T ∧ ∀ H', Same H H' → Q (.int (lines T)) H'
def sp_piece_count (K : PySem.W.Frag) (mg : Str → Option Value) : Sp := SpN 1 fun vs H Q _ => ∃ (p dx r l : Addr) (T : Th), vs = [.ref p] ∧ SetO K mg H p dx r l T ∧ Good T ∧ ThB T ∧ ∀ H', Same H H' → Q (.int (pieces T)) H'
def sp_law_pool (K : PySem.W.Frag) (_ : Str → Option Value) : Sp := SpN 2 fun vs H Q _ => ∃ (s : Addr) (ns : List Int) (k : Int), vs = [.ref s, .int k] ∧ SqL K H s (ns.map V.int) ∧ 0 ≤ k ∧ k < 100 ∧
  ∀ p H', Src H H' p → Q (.ref p) H'
def sp_law_take (_ : PySem.W.Frag) (_ : Str → Option Value) : Sp := SpN 2 fun vs H Q _ => ∃ (F : Hp) (p : Addr) (t : Int), vs = [.ref p, .int t] ∧ Src F H p ∧ 0 < t ∧ t < 1073741824 ∧
  ∀ r H', Src F H' p → Stp (S1 p) F H F H' → 0 ≤ r → r < t → Q (.int r) H'
def sp_law_one (K : PySem.W.Frag) (_ : Str → Option Value) : Sp := SpN 2 fun vs H Q _ => ∃ (F : Hp) (p q : Addr) (xs : List V), vs = [.ref p, .ref q] ∧ Src F H p ∧ SqL K F q xs ∧ 0 < xs.length ∧ xs.length < 1000 ∧
  ∀ r H', Src F H' p → Stp (S1 p) F H F H' → r ∈ xs → Q r H'
def sp_law_layers (_ : PySem.W.Frag) (_ : Str → Option Value) : Sp := SpN 2 fun vs H Q _ => ∃ (F : Hp) (p : Addr) (m : Int), vs = [.ref p, .int m] ∧ Src F H p ∧ 1 ≤ m ∧ m ≤ 20 ∧
  ∀ (q : Addr) (ls : List Int) F' H', Src F' H' p → Stp (S1 p) F H F' H' → F' q = some (.lst (ls.map V.int)) → 1 ≤ ls.length → ls.length ≤ 4 → Q (.ref q) H'
def sp_law_side (_ : PySem.W.Frag) (_ : Str → Option Value) : Sp := SpN 1 fun vs H Q _ => ∃ (F : Hp) (p : Addr), vs = [.ref p] ∧ Src F H p ∧
  ∀ q b e F' H', Src F' H' p → Stp (S1 p) F H F' H' → F' q = some (.lst [.int b, .int e]) → Q (.ref q) H'
def sp_law_things (_ : PySem.W.Frag) (_ : Str → Option Value) : Sp := SpN 1 fun vs H Q _ => ∃ (F : Hp) (p : Addr), vs = [.ref p] ∧ Src F H p ∧
  ∀ a r l T F' H', Src F' H' p → Stp (S1 p) F H F' H' → ThO F' a r l T → ThB T → Q (.ref a) H'
def sp_law_wrong (_ : PySem.W.Frag) (_ : Str → Option Value) : Sp := SpN 1 fun vs H Q _ => ∃ (a r l : Addr) (T : Th), vs = [.ref a] ∧ ThO H a r l T ∧ ThB T ∧ ∀ H', Same H H' → Q (.str (wrong T)) H'
def sp_law_pieces (_ : PySem.W.Frag) (_ : Str → Option Value) : Sp := SpN 1 fun vs H Q _ => ∃ (a r l : Addr) (T : Th), vs = [.ref a] ∧ ThO H a r l T ∧ ThB T ∧ Good T ∧ ∀ H', Same H H' → Q (.int (pieces T)) H'
def sp_law_made (K : PySem.W.Frag) (mg : Str → Option Value) : Sp := SpN 2 fun vs H Q _ => ∃ (a r l l2 : Addr) (T : Th), vs = [.ref a, .ref l2] ∧ ThO H a r l T ∧ SqN K H l2 T.layers ∧ ThB T ∧
  (∀ H', wrong T ≠ "" → Same H H' → Q (.str (Str.ofString "field " ++ wrong T)) H') ∧
  (∀ H', wrong T = "" → 2000 < pieces T → Same H H' → Q (.str "many 2000") H') ∧
  (∀ p dx r' l' H', wrong T = "" → ¬ 2000 < pieces T → Same H H' → SetO K mg H' p dx r' l' T → Q (.ref p) H')
def sp_law_right (_ : PySem.W.Frag) (_ : Str → Option Value) : Sp := SpN 2 fun vs H Q _ => ∃ (a r l : Addr) (T : Th) (b : Bool), vs = [.ref a, .bl b] ∧ ThO H a r l T ∧ ThB T ∧ ∀ H', Same H H' → Q (.bl true) H'
def sp_lawK (K : PySem.W.Frag) : Sp := SpN 1 fun vs H Q _ => ∃ (a : Addr) (ns : List Int), vs = [.ref a] ∧ SqL K H a (ns.map V.int) ∧ ns.length ≤ 63 ∧ ∀ H', Q (.bl true) H'
def sp_law (K : PySem.W.Frag) (_ : Str → Option Value) : Sp := sp_lawK K
theorem law_start {K : PySem.W.Frag} {H : Hp} {a : Addr} {ns : List Int} {E : XK} (hl : ns.length ≤ 63) (hS : SqL K H a (ns.map V.int)) : sp_lawK K [.ref a] H (fun v _ => v = .bl true) E := ⟨rfl, a, ns, rfl, hS, hl, fun _ => rfl⟩
theorem at_nat' {xs : List V} {j : Nat} {v : V} (h : xs[j]? = some v) : atI xs (j : Int) = some v := atI_nat h
theorem SqN.mono {K : PySem.W.Frag} {H H' : Hp} {b : Addr} {cs : List Int} (hB : SqN K H b cs) (s : Same H H') : SqN K H' b cs := hB.imp (fun h => s.seq h) (fun h => h.imp (fun h => h.imp (fun h => s _ _ h) fun ⟨o, h⟩ => ⟨o, s _ _ h⟩) fun h => h)
theorem lenN {K : PySem.W.Frag} {H : Hp} {Q : VK} {b : Addr} {cs : List Int} (hB : SqN K H b cs) (q : Q (.int cs.length) H) : rLen K [.ref b] H Q := ⟨b, cs.map V.int, rfl, hB, by rw [List.length_map]; exact q⟩
theorem c_sum {X : Cx} (K : PySem.W.Frag) (e : X.K = K) (hc : X.calm = true) : CallR X (.builtin "sum") (rSum K) := by subst e; exact cr_sum hc
theorem same_none {H H' : Hp} {p : Addr} (s : Same H H') (h : H' p = none) : H p = none := by
  cases e : H p with
  | none => rfl
  | some o => rw [s _ _ e] at h; cases h
theorem Stp.weak {S : Addr → Prop} {F H F' H' : Hp} (a : Stp S F H F' H') : Stp S F H F H' := ⟨Same.refl F, a.ff.trans a.fh, fun _ _ _ => rfl, a.keep, a.dom⟩
theorem Stp.ofSame {S : Addr → Prop} {F H H' : Hp} (h : Same F H) (s : Same H H') : Stp S F H F H' := ⟨Same.refl F, h.trans s, fun _ _ _ => rfl, fun b o _ e => s b o e, fun b o e => ⟨o, s b o e⟩⟩
theorem blq {Q : VK} {H : Hp} {x y : Bool} (q : Q (.bl x) H) (e : x = y) : Q (.bl y) H := e ▸ q
theorem tyS {K : PySem.W.Frag} {s : Str} {H : Hp} {R : Prop} (r : R) : tyV K "str" (.str s) H ∧ R := ⟨rfl, r⟩
theorem pow5 {a : Int} (h : 0 ≤ a ∧ a ≤ 5) : (2 : Int) ^ a.toNat = 1 ∨ (2 : Int) ^ a.toNat = 2 ∨ (2 : Int) ^ a.toNat = 4 ∨ (2 : Int) ^ a.toNat = 8 ∨ (2 : Int) ^ a.toNat = 16 ∨ (2 : Int) ^ a.toNat = 32 := by
  have : a = 0 ∨ a = 1 ∨ a = 2 ∨ a = 3 ∨ a = 4 ∨ a = 5 := by omega
  rcases this with rfl | rfl | rfl | rfl | rfl | rfl <;> decide
theorem tiles_b {a b t : Int} (ht : 0 ≤ t ∧ t ≤ 5) (h1 : okPlace a = true) (h2 : okSide a b = true) : 1 ≤ (b - 1) / 2 ^ t.toNat - a / 2 ^ t.toNat + 1 ∧ (b - 1) / 2 ^ t.toNat - a / 2 ^ t.toNat + 1 ≤ 33 := by
  have h2 := of_decide_eq_true h2
  rcases pow5 ht with e | e | e | e | e | e <;> rw [e] <;> omega
theorem seqT' {K : PySem.W.Frag} {H H' : Hp} {a : Addr} {xs : List V} (e : Same H H') (h : SqT K H a xs) : SqT K H' a xs := h.imp (fun h => h.imp (fun h => e _ _ h) fun ⟨o, h⟩ => ⟨o, e _ _ h⟩) fun h => h
/-- `lo <= x <= hi` as a value -/
theorem mergeC {x hi lo : Int} {σ : L2.St} {H : Hp} {R : VK} (h : R (.bl (okIn lo hi x)) H) : if decide (lo ≤ x) = true then tC (.int hi) σ H (fun u H4 => rI0 (fun i j => V.bl (decide (i ≤ j))) (.int x) u H4 R) else R (.bl false) H := by
  unfold okIn at h
  by_cases c : lo ≤ x
  · rw [if_pos (decide_eq_true c)]
    refine ⟨_, _, rfl, rfl, ?_⟩
    have e : decide (lo ≤ x ∧ x ≤ hi) = decide (x ≤ hi) := decide_eq_decide.mpr ⟨fun z => z.2, fun z => ⟨c, z⟩⟩
    rw [e] at h
    exact h
  · rw [if_neg (by simp [c])]
    rw [decide_eq_false (fun z => c z.1)] at h
    exact h
/-- tuples of a word and a bool -/
inductive TupB (H : Hp) : List V → List (Str × Bool) → Prop
  | nil : TupB H [] []
  | cons {t : Addr} {n : Str} {b : Bool} {vs : List V} {l : List (Str × Bool)} : H t = some (.tup [.str n, .bl b]) → TupB H vs l → TupB H (.ref t :: vs) ((n, b) :: l)
theorem TupB.get {H : Hp} {vs : List V} {l : List (Str × Bool)} (h : TupB H vs l) : ∀ {i : Nat} {x : V}, vs[i]? = some x → ∃ t n b, x = .ref t ∧ l[i]? = some (n, b) ∧ H t = some (.tup [.str n, .bl b]) := by
  induction h with
  | nil => intro i x h; simp at h
  | @cons t n b vs l e r ih =>
    intro i x h
    cases i with
    | zero => simp at h; subst h; exact ⟨t, n, b, rfl, rfl, e⟩
    | succ i => exact ih (by simpa using h)
theorem TupB.len {H : Hp} {vs : List V} {l : List (Str × Bool)} (h : TupB H vs l) : vs.length = l.length := by
  induction h with
  | nil => rfl
  | cons _ _ ih => simp [ih]
theorem ord_eq {o : Str} {ys : List Str} (p : ys.Perm (o.cps.toList.map fun c => (⟨#[c]⟩ : Str))) (s : PyProof.Rows.sortedS ys = true) : decide (ys = [66, 67, 76, 84].map one) = okOrd o := by
  unfold okOrd
  exact decide_eq_decide.mpr (sortZ_iff p s (List.Perm.refl _) (by decide +kernel))
theorem place_eq (x : Int) : decide ((if x < 0 then -x else x) ≤ 1073741824) = okPlace x := by
  unfold okPlace
  exact decide_eq_decide.mpr ⟨fun z => by split at z <;> omega, fun z => by split <;> omega⟩
theorem bclt : [V.str (Str.ofString "B"), V.str (Str.ofString "C"), V.str (Str.ofString "L"), V.str (Str.ofString "T")] = ([66, 67, 76, 84].map one).map V.str := by
  have h1 : Str.ofString "B" = one 66 := by decide +kernel
  have h2 : Str.ofString "C" = one 67 := by decide +kernel
  have h3 : Str.ofString "L" = one 76 := by decide +kernel
  have h4 : Str.ofString "T" = one 84 := by decide +kernel
  rw [h1, h2, h3, h4]; rfl
theorem oks_nm {T : Th} {q : Str × Bool} (h : q ∈ oks T) : q.1 ≠ "" ∧ q.1.length ≤ 10 := by
  revert h q
  unfold oks
  simp only [List.mem_cons, List.not_mem_nil, or_false]
  rintro q (rfl | rfl | rfl | rfl | rfl | rfl | rfl | rfl | rfl | rfl | rfl) <;> (dsimp only; decide +kernel)
section
variable {r l : Addr} {T : Th}
theorem th0 : atI (thV r l T) 0 = some (.ref r) := rfl
theorem th1 : atI (thV r l T) 1 = some (.int T.mode) := rfl
theorem th2 : atI (thV r l T) 2 = some (.int T.tx) := rfl
theorem th3 : atI (thV r l T) 3 = some (.int T.ty) := rfl
theorem th4 : atI (thV r l T) 4 = some (.str T.word) := rfl
theorem th5 : atI (thV r l T) 5 = some (.int T.planes) := rfl
theorem th6 : atI (thV r l T) 6 = some (.ref l) := rfl
theorem th7 : atI (thV r l T) 7 = some (.str T.order) := rfl
end
theorem atI_last1 {α : Type} (xs : List α) (u : α) : atI (xs ++ [u]) (-1) = some u := by
  have hl : (xs ++ [u]).length = xs.length + 1 := by simp
  unfold atI ixN
  rw [hl, if_neg (by decide), if_pos (by omega)]
  show (xs ++ [u])[((-1 : Int) + ((xs.length + 1 : Nat) : Int)).toNat]? = some u
  have e : ((-1 : Int) + ((xs.length + 1 : Nat) : Int)).toNat = xs.length := by omega
  rw [e]; simp
theorem pow_at {t : Int} (h : 0 ≤ t ∧ t ≤ 5) : atI [V.int 1, V.int 2, V.int 4, V.int 8, V.int 16, V.int 32] t = some (.int (2 ^ t.toNat)) := by
  have : t = 0 ∨ t = 1 ∨ t = 2 ∨ t = 3 ∨ t = 4 ∨ t = 5 := by omega
  rcases this with rfl | rfl | rfl | rfl | rfl | rfl <;> rfl
theorem pow_b {t : Int} (h : 0 ≤ t ∧ t ≤ 5) : 1 ≤ (2 : Int) ^ t.toNat ∧ (2 : Int) ^ t.toNat ≤ 32 := by
  rcases pow5 h with e | e | e | e | e | e <;> rw [e] <;> omega
theorem wrong_len (T : Th) : (wrong T).length ≤ 10 := by
  unfold wrong wrongOf
  cases e : (oks T).find? (fun p => !p.2) with
  | none => exact (by decide +kernel : (Str.ofString "").length ≤ 10)
  | some p => exact (oks_nm (List.mem_of_find?_eq_some e)).2
theorem app_empty (s : Str) : s ++ Str.empty = s := by
  cases s with
  | mk c => exact congrArg Str.mk (Array.append_empty (xs := c))
theorem bang0 (s : Str) : s ++ Txt.mul (Str.ofString "!") 0 = s := by rw [mul_zero']; exact app_empty s
theorem len_app (a b : Str) : (a ++ b).length = a.length + b.length := Array.size_append
theorem nin_ints {K : PySem.W.Frag} {H : Hp} {Q : VK} {a : Addr} {ns : List Int} {x : Int} (h : SqL K H a (ns.map V.int)) (q : Q (.bl (!decide (x ∈ ns))) H) : rIn K true (.int x) (.ref a) H Q :=
  ⟨a, _, rfl, .inl h, rfl, flat_ints ns, by rw [if_pos rfl, inV_ints]; exact q⟩
theorem inXY (c : Nat) : inV (.str ⟨#[c]⟩) [.str (Str.ofString "X"), .str (Str.ofString "Y")] = decide (c = 88 ∨ c = 89) := by
  have hx : Str.ofString "X" = (⟨#[88]⟩ : Str) := by decide +kernel
  have hy : Str.ofString "Y" = (⟨#[89]⟩ : Str) := by decide +kernel
  rw [hx, hy, Bool.eq_iff_iff, decide_eq_true_iff]
  unfold inV
  simp only [List.any_cons, List.any_nil, Bool.or_false, Bool.or_eq_true]
  have e : ∀ d : Nat, eqV (.str ⟨#[d]⟩) (.str ⟨#[c]⟩) = true ↔ c = d := fun d => by
    show (((⟨#[d]⟩ : Str) == ⟨#[c]⟩) = true) ↔ _
    rw [beq_iff_eq]
    constructor
    · intro h
      have := congrArg (fun z : Str => z.cps.toList) h
      simp at this; exact this.symm
    · rintro rfl; rfl
  rw [e, e]
theorem nin_XY {K : PySem.W.Frag} {H : Hp} {Q : VK} {a : Addr} {c : Nat} (h : SqL K H a [.str (Str.ofString "X"), .str (Str.ofString "Y")]) (q : Q (.bl (!decide (c = 88 ∨ c = 89))) H) : rIn K true (.str ⟨#[c]⟩) (.ref a) H Q :=
  ⟨a, _, rfl, .inl h, rfl, rfl, by rw [if_pos rfl, inXY]; exact q⟩
theorem other_len : ∀ l : List Nat, l.count 88 + l.count 89 + (l.filter fun c => !decide (c = 88 ∨ c = 89)).length = l.length
  | [] => rfl
  | c :: l => by
    have ih := other_len l
    by_cases h1 : c = 88
    · subst h1; simp; simp at ih; omega
    · by_cases h2 : c = 89
      · subst h2; simp; simp at ih; omega
      · simp [h1, h2]; simp at ih; omega
theorem okWord_of {w : Str} {tx ty : Int} : okWord w tx ty = true ↔ (w.cps.toList.filter fun c => !decide (c = 88 ∨ c = 89)) = [] ∧ cX w ≤ tx ∧ cY w ≤ ty := by
  have e := other_len w.cps.toList
  have el : w.cps.toList.length = w.length := Array.length_toList
  unfold okWord
  rw [decide_eq_true_iff, ← List.length_eq_zero_iff]
  unfold cX cY
  constructor
  · rintro ⟨h1, h2⟩; exact ⟨by omega, h2⟩
  · rintro ⟨h1, h2⟩; exact ⟨by omega, h2⟩
theorem cnt_filter (l : List Nat) (n : Nat) : ((l.filter fun c => decide (c = n)).map fun _ => V.int 1).length = l.count n := by
  rw [List.length_map, List.count_eq_length_filter]
  congr 1
theorem okLay_of {ls : List Int} {pl : Int} : okLay ls pl = true ↔ 1 ≤ ls.length ∧ ls.length ≤ 6 ∧ (ls.filter fun n => decide (n < 1)) = [] ∧ ls.sum = 3 * pl := by
  unfold okLay
  rw [decide_eq_true_iff]
  have : (∀ x ∈ ls, 1 ≤ x) ↔ (ls.filter fun n => decide (n < 1)) = [] := by
    rw [List.filter_eq_nil_iff]
    constructor
    · intro h x hx; have := h x hx; simp; omega
    · intro h x hx; have := h x hx; simp at this; omega
  rw [this]
theorem one_eq88 (c : Nat) : ((⟨#[c]⟩ : Str) = Str.ofString "X") ↔ c = 88 := by
  rw [show Str.ofString "X" = (⟨#[88]⟩ : Str) by decide +kernel]
  exact ⟨fun h => by have := congrArg (fun z : Str => z.cps.toList) h; simpa using this, fun h => by rw [h]⟩
theorem one_eq89 (c : Nat) : ((⟨#[c]⟩ : Str) = Str.ofString "Y") ↔ c = 89 := by
  rw [show Str.ofString "Y" = (⟨#[89]⟩ : Str) by decide +kernel]
  exact ⟨fun h => by have := congrArg (fun z : Str => z.cps.toList) h; simpa using this, fun h => by rw [h]⟩
theorem SetO.wr {K : PySem.W.Frag} {mg : Str → Option Value} {H : Hp} {p dx r l q : Addr} {T : Th} {xs : List V} {o : HO} (s : SetO K mg H p dx r l T) (e : H q = some (.lst xs)) : SetO K mg (upd H q o) p dx r l T := by
  refine ⟨?_, ?_, ?_⟩
  · rw [upd_ne (fun z => by have := s.o; rw [z, e] at this; cases this)]; exact s.o
  · rw [upd_ne (fun z => by have := s.r; rw [z, e] at this; cases this)]; exact s.r
  · refine s.l.imp (fun h => h.imp (fun h => ?_) fun ⟨o, h⟩ => ⟨o, ?_⟩) fun h => h
    · rw [upd_ne (fun z => by rw [z, e] at h; cases h)]; exact h
    · rw [upd_ne (fun z => by rw [z, e] at h; cases h)]; exact h
theorem ty_tup {K : PySem.W.Frag} {H : Hp} {l : Addr} {xs : List V} (s : SqT K H l xs) : TyX K H (.ref l) (.type "tuple") := by
  rcases s with (h | ⟨o, h⟩) | h
  · exact .base (.tup h)
  · exact .fTuple h
  · obtain ⟨o, its, n, e, c, _⟩ := h
    exact .kTuple e c
def dS (T : Th) : PyData := .list [.tuple [.int T.x0, .int T.x1, .int T.y0, .int T.y1], .int T.mode, .int T.tx, .int T.ty, .str T.word, .int T.planes, .str T.order]
open PyData in
theorem shaped_dS {T : Th} (hB : ThB T) : SeqAt.shaped (dS T) = true := by
  refine Bool.and_eq_true_iff.mpr ⟨?_, ?_⟩
  · simp [dS, canLay0, canLayAll0, strOk_of hB.ws, strOk_of hB.os]
  · simp [dS, depth, depthAll]
theorem s_eqSame' {K : PySem.W.Frag} {H : Hp} {Q : VK} {a b : V} {d : PyData} (h1 : Dp K H a d) (h2 : Dp K H b d) (s : SeqAt.shaped d = true) (q : Q (.bl true) H) : rEqD K a b H Q :=
  s_eqD h1 h2 s s (by rw [SeqAt.eqv_refl _ (SeqAt.canLay_of_shaped s)]; exact q)
theorem th_cut {r l : Addr} {T : Th} : cutV (thV r l T) none (some 6) = [.ref r, .int T.mode, .int T.tx, .int T.ty, .str T.word, .int T.planes] := rfl
theorem sg_app {a b : Str} (h : SgT a) (g : SgT b) : SgT (a ++ b) := fun c hc => by
  have : (a ++ b).cps.toList = a.cps.toList ++ b.cps.toList := Array.toList_append
  rw [this] at hc
  exact (List.mem_append.mp hc).elim (h c) (g c)
theorem mul_sg {a : Str} {n : Int} (h : SgT a) : SgT (Txt.mul a n) := by
  have key : ∀ (k : Nat) (b : Array Nat), (∀ c ∈ b.toList, c < 1114112) → ∀ c ∈ ((List.replicate k a.cps).foldl (· ++ ·) b).toList, c < 1114112 := by
    intro k
    induction k with
    | zero => intro b hb; exact hb
    | succ k ih =>
      intro b hb
      rw [List.replicate_succ, List.foldl_cons]
      refine ih _ fun c hc => ?_
      rw [Array.toList_append] at hc
      exact (List.mem_append.mp hc).elim (hb c) (h c)
  unfold Txt.mul
  by_cases h1 : n < 1
  · rw [if_pos h1]; exact fun c hc => nomatch (show c ∈ ([] : List Nat) from hc)
  · rw [if_neg h1]
    by_cases h2 : (n == 1 || a.length == 0) = true
    · rw [if_pos h2]; exact h
    · rw [if_neg h2]; exact key _ _ (fun c hc => absurd hc (by simp))
theorem xword (a : Str) (ha : a.length = 1) (hg : SgT a) {n : Int} (h0 : 0 ≤ n) (h1 : n ≤ 64) : MulOk a n ∧ (Txt.mul a n).length = n.toNat ∧ SgT (Txt.mul a n) :=
  ⟨mul_ok h0 (by omega) (by omega), by rw [mul_len h0, ha, Nat.one_mul], mul_sg hg⟩
theorem merge_str {tt : TT} {ta tb : TE} {σ : L2.St} {H : Hp} {Q : VK} (P : Str → Prop) (rest : ∀ y, P y → Q (.str y) H) (h : (∀ y, P y → Q (.str y) H) → tIf tt ta tb σ H Q) : tIf tt ta tb σ H Q := h rest
theorem cut_ints (ls : List Int) (lo hi : Option Int) : ∃ ms : List Int, cutV (ls.map V.int) lo hi = ms.map V.int ∧ ms.length ≤ ls.length := by
  refine ⟨(ls.drop (HT.sIx (ls.map V.int).length 0 lo)).take (HT.sIx (ls.map V.int).length (ls.map V.int).length hi - HT.sIx (ls.map V.int).length 0 lo), ?_, ?_⟩
  · unfold cutV
    rw [List.map_take, List.map_drop]
  · rw [List.length_take, List.length_drop]; omega
def OkW (n : Nat) (v : V) : Prop := ∃ s : Str, v = .str s ∧ SgT s ∧ s.length ≤ n
def OkI (v : V) : Prop := ∃ i : Int, v = .int i
def OkL (F : Hp) (v : V) : Prop := ∃ (l : Addr) (ls : List Int), v = .ref l ∧ F l = some (.lst (ls.map V.int)) ∧ ls.length ≤ 20
/-- things under way: the list at a is still written -/
structure ThW (F H F' H' : Hp) (p a r l : Addr) (T : Th) : Prop where
  s : Src F' H' p
  t : Stp (S1 p) F H F' H'
  na : H a = none
  fa : F' a = none
  np : a ≠ p
  a : H' a = some (.lst (thV r l T))
  r : F' r = some (.tup (rectV T))
  l : F' l = some (.lst (T.layers.map V.int))
  b : ThB T
theorem ThW.stp {F H F' H' F2 H2 : Hp} {p a r l : Addr} {T : Th} (z : ThW F H F' H' p a r l T) (s : Src F2 H2 p) (t : Stp (S1 p) F' H' F2 H2) : ThW F H F2 H2 p a r l T :=
  ⟨s, z.t.trans t, z.na, (t.fo _ _ z.a).trans z.fa, z.np, t.keep _ _ (fun e => z.np e) z.a, t.ff _ _ z.r, t.ff _ _ z.l, z.b⟩
theorem ThW.set {F H F' H' : Hp} {p a r l l2 : Addr} {T T2 : Th} {i : Nat} {v : V} (z : ThW F H F' H' p a r l T) (e : (thV r l T).set i v = thV r l2 T2) (er : rectV T2 = rectV T) (el : F' l2 = some (.lst (T2.layers.map V.int))) (b : ThB T2) : ThW F H F' (upd H' a (.lst ((thV r l T).set i v))) p a r l2 T2 := by
  rw [e]
  refine ⟨z.s.upd z.np z.fa, z.t.wrNew z.na z.fa, z.na, z.fa, z.np, upd_same, by rw [er]; exact z.r, el, b⟩
theorem ThW.fin {F H F' H' : Hp} {p a r l : Addr} {T : Th} (z : ThW F H F' H' p a r l T) : Src (upd F' a (.lst (thV r l T))) H' p ∧ Stp (S1 p) F H (upd F' a (.lst (thV r l T))) H' ∧ ThO (upd F' a (.lst (thV r l T))) a r l T := by
  have g := z.t.freeze z.na z.a z.fa
  refine ⟨z.s.frz z.np.symm g.fh, g, upd_same, ?_, ?_⟩
  · rw [upd_ne (fun e => by have := z.r; rw [e, z.fa] at this; cases this)]; exact z.r
  · rw [upd_ne (fun e => by have := z.l; rw [e, z.fa] at this; cases this)]; exact z.l
theorem last_at {ls : List Int} (h : 1 ≤ ls.length) : ∃ x : Int, atI (ls.map V.int) (-1) = some (.int x) := by
  have : ls ≠ [] := fun e => by rw [e] at h; simp at h
  obtain ⟨x, hx⟩ : ∃ x, ls = ls.dropLast ++ [x] := ⟨ls.getLast this, (List.dropLast_concat_getLast this).symm⟩
  refine ⟨x, ?_⟩
  rw [hx, List.map_append]
  exact atI_last1 _ _
section
variable {P : Program} {w : World} {K : PySem.W.Frag} {mg : Str → Option Value} {base : Heap}
abbrev s_BadField___init__ : Stmt := inClass (topS 2) 0
theorem sc_BadField___init__ : NdefX.NScope ["self", "name", "__class__"] ["self", "name"] ["__class__"] (defScope s_BadField___init__) := NdefX.nscope_by (by decide +kernel)
def Ok_BadField___init__ (P : Program) (w : World) (K : PySem.W.Frag) (mg : Str → Option Value) (base : Heap) : Prop := ∃ fA fd, ExI P w K mg base (L2.CX P w) 1 fA fd (exA mg "BadField") ["self", "name"] (sp_BadField___init__ K mg)
theorem okx_BadField___init__ (Z : Zs K mg) {fA cc cda : Addr} {fd : FuncData} {file : Str} (F : FunS K "__init__" "BadField.__init__" s_BadField___init__ fA fd cc cda) (SC : SupC K (exA mg "BadField") cc cda file) (T : OexC K (exA mg "BadField")) (i : PySem.W.findIn K (.ref (exA mg "BadField")) "__init__" = some (some (.ref fA))) (ti : PySem.W.typeIn K (.ref fA) = some (.type "function")) (ef : P.main.file = file) (et : (P.main.scope.names.lookup ("super" : Str)).isSome = false)  : ExI P w K mg base (L2.CX P w) 1 fA fd (exA mg "BadField") ["self", "name"] (sp_BadField___init__ K mg) := by
  refine ⟨T, i, ti, okSup F sc_BadField___init__ (fun vs H Q E h => h.1) rfl SC T ef et rfl rfl rfl rfl Z.z_super (fun _ => rfl) (fun _ => rfl) (fun A outer s H vs Q E hr h => ?_), F.binds fun _ _ _ _ _ us hl => match us, hl with | [_, _], _ => rfl⟩
  have hu64 := hr.units
  obtain ⟨hlen, h⟩ := h
  refine exci_by (pa_cons (pe_op op_add_str pe_str (pv 1)) pa_nil) (pss_one (ps_ost (pv 0) (pv 1) rfl)) ?_
  obtain ⟨a, x, rfl, ⟨s0, rfl, hl⟩, ea, q⟩ := h
  refine ⟨a, rfl, ea, fun R hR => ?_⟩
  refine ⟨.str s0, rfl, _, _, rfl, rfl, ?_, hR _ _ (by simp) ea (ost_fin T Z.f_BadField_name ea (fun Q h => ⟨_, rfl, h⟩) (fun Q h => ⟨_, rfl, h⟩) q)⟩
  refine Nat.le_trans (Nat.add_le_add (Nat.le_of_eq (by rfl : (Str.ofString "wrong field: ").length = 13)) hl) (by rw [sizeLine_eq]; decide)
abbrev s_TooMany___init__ : Stmt := inClass (topS 3) 0
theorem sc_TooMany___init__ : NdefX.NScope ["self", "most", "__class__"] ["self", "most"] ["__class__"] (defScope s_TooMany___init__) := NdefX.nscope_by (by decide +kernel)
def Ok_TooMany___init__ (P : Program) (w : World) (K : PySem.W.Frag) (mg : Str → Option Value) (base : Heap) : Prop := ∃ fA fd, ExI P w K mg base (L2.CX P w) 1 fA fd (exA mg "TooMany") ["self", "most"] (sp_TooMany___init__ K mg)
theorem okx_TooMany___init__ (Z : Zs K mg) {fA cc cda : Addr} {fd : FuncData} {file : Str} (F : FunS K "__init__" "TooMany.__init__" s_TooMany___init__ fA fd cc cda) (SC : SupC K (exA mg "TooMany") cc cda file) (T : OexC K (exA mg "TooMany")) (i : PySem.W.findIn K (.ref (exA mg "TooMany")) "__init__" = some (some (.ref fA))) (ti : PySem.W.typeIn K (.ref fA) = some (.type "function")) (ef : P.main.file = file) (et : (P.main.scope.names.lookup ("super" : Str)).isSome = false)  : ExI P w K mg base (L2.CX P w) 1 fA fd (exA mg "TooMany") ["self", "most"] (sp_TooMany___init__ K mg) := by
  refine ⟨T, i, ti, okSup F sc_TooMany___init__ (fun vs H Q E h => h.1) rfl SC T ef et rfl rfl rfl rfl Z.z_super (fun _ => rfl) (fun _ => rfl) (fun A outer s H vs Q E hr h => ?_), F.binds fun _ _ _ _ _ us hl => match us, hl with | [_, _], _ => rfl⟩
  have hu64 := hr.units
  obtain ⟨hlen, h⟩ := h
  refine exci_by (pa_cons (pe_op op_add_str pe_str (pe_callTy call_str_int (by rfl) Z.z_str (by decide +kernel) (pa_cons (pv 1) pa_nil))) pa_nil) (pss_one (ps_ost (pv 0) (pv 1) rfl)) ?_
  obtain ⟨a, x, rfl, rfl, ea, q⟩ := h
  refine ⟨a, rfl, ea, fun R hR => ?_⟩
  refine ⟨.int 2000, rfl, 2000, rfl, by decide, _, _, rfl, rfl, by decide +kernel, hR _ _ (by simp) ea (ost_fin T Z.f_TooMany_most ea (fun Q h => ⟨_, rfl, h⟩) (fun Q h => ⟨_, rfl, h⟩) q)⟩
abbrev s_is_word : Stmt := topS 9
theorem sc_is_word : FnScope ["word", "tx", "ty", "across", "down"] ["word", "tx", "ty"] (defScope s_is_word) := ⟨rfl, rfl, rfl, by decide +kernel, rfl, by decide +kernel, by decide +kernel⟩
def Ok_is_word (P : Program) (w : World) (K : PySem.W.Frag) (mg : Str → Option Value) (base : Heap) : Prop := ∃ fA fd, Fn P w K mg base (L2.CX P w) 1 "is_word" s_is_word fA fd ["word", "tx", "ty"] (sp_is_word K mg)
theorem okx_is_word (Z : Zs K mg) {fA : Addr} {fd : FuncData} (F : Fun K "is_word" "is_word" s_is_word fA fd) (m : mg "is_word" = some (.ref fA))  : Fn P w K mg base (L2.CX P w) 1 "is_word" s_is_word fA fd ["word", "tx", "ty"] (sp_is_word K mg) := by
  refine ⟨F.okX sc_is_word (fun vs H Q E h => h.1) (fun cdv A outer s H vs Q E hr h => ?_), m, F.kp, F.binds fun _ _ _ _ _ _ us hl => match us, hl with | [_, _, _], _ => rfl, F⟩
  have hu64 := hr.units
  obtain ⟨hlen, h⟩ := h
  refine ⟨_, (pss_cons (ps_par (i := 3) (j := 4) (by rfl) sc_is_word.nd rfl rfl (by decide) rfl rfl (pa_cons (pe_bm PySem.F.plainAttrs_str PySem.F.slot_str_count PySem.F.type_str_count mt_count (pv 0) (pa_cons pe_str pa_nil)) (pa_cons (pe_bm PySem.F.plainAttrs_str PySem.F.slot_str_count PySem.F.type_str_count mt_count (pv 0) (pa_cons pe_str pa_nil)) pa_nil)) (by rfl))
    (pss_one (ps_ret (pe_and (pe_cmpR op_eq (pe_op op_add (pv 3) (pv 4)) (pe_callB call_len_str (by rfl) Z.z_len (by decide +kernel) (pa_cons (pv 0) pa_nil)) (nomark _)) (pe_and (pe_cmpR op_le (pv 3) (pv 1) (nomark _)) (pe_one (pe_cmpR op_le (pv 4) (pv 2) (nomark _)))))))), ?_⟩
  obtain ⟨w', tx, ty, rfl, hw, q⟩ := h
  have e1 : Txt.count w' (Str.ofString "X") = cX w' := count_one w' 88
  have e2 : Txt.count w' (Str.ofString "Y") = cY w' := count_one w' 89
  walk_at "r"
  refine ⟨rfl, ?_⟩
  walk_at "r"
  refine ⟨_, _, rfl, rfl, ?_⟩
  rw [e1]
  walk_at "r"
  refine ⟨rfl, ?_⟩
  walk_at "r"
  refine ⟨_, _, rfl, rfl, ?_⟩
  rw [e2]
  walk_at "r"
  refine ⟨_, rfl, sz (by omega), ?_⟩
  walk_at "r"
  refine ifd (fun h1 => ?_) (fun h1 => blq q (by unfold okWord; exact decide_eq_false (fun z => h1 z.1)))
  walk_at "r"
  refine ifd (fun h2 => ?_) (fun h2 => blq q (by unfold okWord; exact decide_eq_false (fun z => h2 z.2.1)))
  walk_at "r"
  exact blq q (by unfold okWord; exact decide_eq_decide.mpr ⟨fun z => z.2.2, fun z => ⟨h1, h2, z⟩⟩)
abbrev s_are_layers : Stmt := topS 10
theorem sc_are_layers : FnScope ["layers", "planes"] ["layers", "planes"] (defScope s_are_layers) := ⟨rfl, rfl, rfl, by decide +kernel, rfl, by decide +kernel, by decide +kernel⟩
def Ok_are_layers (P : Program) (w : World) (K : PySem.W.Frag) (mg : Str → Option Value) (base : Heap) : Prop := ∃ fA fd, Fn P w K mg base (L2.CX P w) 1 "are_layers" s_are_layers fA fd ["layers", "planes"] (sp_are_layers K mg)
theorem okx_are_layers (Z : Zs K mg) {fA : Addr} {fd : FuncData} (F : Fun K "are_layers" "are_layers" s_are_layers fA fd) (m : mg "are_layers" = some (.ref fA))  : Fn P w K mg base (L2.CX P w) 1 "are_layers" s_are_layers fA fd ["layers", "planes"] (sp_are_layers K mg) := by
  refine ⟨F.okX sc_are_layers (fun vs H Q E h => h.1) (fun cdv A outer s H vs Q E hr h => ?_), m, F.kp, F.binds fun _ _ _ _ _ _ us hl => match us, hl with | [_, _], _ => rfl, F⟩
  have hu64 := hr.units
  obtain ⟨hlen, h⟩ := h
  refine ⟨_, (pss_one (ps_ret (pe_and (pe_chain op_le op_le pe_int (pe_callB (c_len K rfl) (by rfl) Z.z_len (by decide +kernel) (pa_cons (pv 0) pa_nil)) pe_int) (pe_and (pe_cmpR op_ge (pe_callB (c_minN K rfl rfl) (by rfl) Z.z_min (by decide +kernel) (pa_cons (pv 0) pa_nil)) pe_int (nomark _)) (pe_one (pe_cmpR op_eq (pe_callB (c_sumN K rfl rfl) (by rfl) Z.z_sum (by decide +kernel) (pa_cons (pv 0) pa_nil)) (pe_op op_mul pe_int (pv 1)) (nomark _))))))), ?_⟩
  obtain ⟨a, ls, pl, rfl, hS, q⟩ := h
  walk_at "r"
  refine lenN hS ?_
  walk_at "r"
  refine ifd (fun h1 => ?_) (fun h1 => ?_)
  rotate_left
  · walk_at "r"
    exact blq q (by unfold okLay; exact decide_eq_false (fun z => h1 (by omega)))
  walk_at "r"
  refine ifd (fun h2 => ?_) (fun h2 => ?_)
  rotate_left
  · exact blq q (by unfold okLay; exact decide_eq_false (fun z => h2 (by omega)))
  walk_at "r"
  refine ⟨a, ls, rfl, hS, by omega, fun m hm hle => ?_⟩
  walk_at "r"
  refine ifd (fun h3 => ?_) (fun h3 => ?_)
  rotate_left
  · exact blq q (by unfold okLay; exact decide_eq_false (fun z => h3 (z.2.2.1 m hm)))
  walk_at "r"
  refine ⟨a, ls, rfl, hS, ?_⟩
  walk_at "r"
  exact blq q (by unfold okLay; exact decide_eq_decide.mpr ⟨fun z => z.2.2.2, fun z => ⟨by omega, by omega, fun x hx => Int.le_trans h3 (hle x hx), z⟩⟩)
abbrev s_is_side : Stmt := topS 11
theorem sc_is_side : FnScope ["begin", "end"] ["begin", "end"] (defScope s_is_side) := ⟨rfl, rfl, rfl, by decide +kernel, rfl, by decide +kernel, by decide +kernel⟩
def Ok_is_side (P : Program) (w : World) (K : PySem.W.Frag) (mg : Str → Option Value) (base : Heap) : Prop := ∃ fA fd, Fn P w K mg base (L2.CX P w) 1 "is_side" s_is_side fA fd ["begin", "end"] (sp_is_side K mg)
theorem okx_is_side (Z : Zs K mg) {fA : Addr} {fd : FuncData} (F : Fun K "is_side" "is_side" s_is_side fA fd) (m : mg "is_side" = some (.ref fA))  : Fn P w K mg base (L2.CX P w) 1 "is_side" s_is_side fA fd ["begin", "end"] (sp_is_side K mg) := by
  refine ⟨F.okX sc_is_side (fun vs H Q E h => h.1) (fun cdv A outer s H vs Q E hr h => ?_), m, F.kp, F.binds fun _ _ _ _ _ _ us hl => match us, hl with | [_, _], _ => rfl, F⟩
  have hu64 := hr.units
  obtain ⟨hlen, h⟩ := h
  refine ⟨_, (pss_one (ps_ret (pe_and (pe_chain op_le op_le pe_int (pe_op op_sub (pv 1) (pv 0)) (pe_glob (v := .int (32)) rfl Z.c_MOST_SIDE ⟨_, rfl⟩)) (pe_one (pe_cmpR op_le (pe_callB call_abs (by rfl) Z.z_abs (by decide +kernel) (pa_cons (pv 1) pa_nil)) (pe_glob (v := .int (1073741824)) rfl Z.c_MOST_PLACE ⟨_, rfl⟩) (nomark _)))))), ?_⟩
  obtain ⟨b, e, rfl, q⟩ := h
  walk_at "r"
  refine ifd (fun h1 => ?_) (fun h1 => ?_)
  rotate_left
  · walk_at "r"
    exact blq q (by unfold okSide; exact decide_eq_false (fun z => h1 z.1))
  walk_at "r"
  refine ifd (fun h2 => ?_) (fun h2 => ?_)
  rotate_left
  · exact blq q (by unfold okSide; exact decide_eq_false (fun z => h2 z.2.1))
  walk_at "r"
  refine ⟨_, rfl, ?_⟩
  walk_at "r"
  exact blq q (by unfold okSide; exact decide_eq_decide.mpr ⟨fun z => by split <;> omega, fun z => ⟨h1, h2, by split at z <;> omega, by split at z <;> omega⟩⟩)
abbrev s_Setting_rect : Stmt := inClass (topS 12) 1
theorem sc_Setting_rect : FnScope ["self"] ["self"] (defScope s_Setting_rect) := ⟨rfl, rfl, rfl, by decide +kernel, rfl, by decide +kernel, by decide +kernel⟩
def Ok_Setting_rect (P : Program) (w : World) (K : PySem.W.Frag) (mg : Str → Option Value) (base : Heap) : Prop := ∃ fA fd pA, FnC P w K mg base (L2.CX P w) 1 "rect" "Setting.rect" s_Setting_rect fA fd ["self"] (sp_Setting_rect K mg) ∧ PropOf K (exA mg "Setting") "rect" pA fA
theorem okx_Setting_rect (Z : Zs K mg) {fA : Addr} {fd : FuncData} (F : Fun K "rect" "Setting.rect" s_Setting_rect fA fd)  : FnC P w K mg base (L2.CX P w) 1 "rect" "Setting.rect" s_Setting_rect fA fd ["self"] (sp_Setting_rect K mg) := by
  refine ⟨F.okX sc_Setting_rect (fun vs H Q E h => h.1) (fun cdv A outer s H vs Q E hr h => ?_), F.binds fun _ _ _ _ _ _ us hl => match us, hl with | [_], _ => rfl, F⟩
  have hu64 := hr.units
  obtain ⟨hlen, h⟩ := h
  refine ⟨_, (pss_one (ps_ret (pe_fld (pv 0) rfl))), ?_⟩
  obtain ⟨p, dx, r, l, T, rfl, hO, q⟩ := h
  walk_at "r"
  refine ⟨p, _, dx, _, _, rfl, hO.o, Z.o_Setting.cl, Z.n_Setting__rect, rfl, ?_⟩
  exact q
abbrev s_channel_count : Stmt := topS 13
theorem sc_channel_count : FnScope ["setting"] ["setting"] (defScope s_channel_count) := ⟨rfl, rfl, rfl, by decide +kernel, rfl, by decide +kernel, by decide +kernel⟩
def Ok_channel_count (P : Program) (w : World) (K : PySem.W.Frag) (mg : Str → Option Value) (base : Heap) : Prop := ∃ fA fd, Fn P w K mg base (L2.CX P w) 1 "channel_count" s_channel_count fA fd ["setting"] (sp_channel_count K mg)
theorem okx_channel_count (Z : Zs K mg) {fA : Addr} {fd : FuncData} (F : Fun K "channel_count" "channel_count" s_channel_count fA fd) (m : mg "channel_count" = some (.ref fA))  : Fn P w K mg base (L2.CX P w) 1 "channel_count" s_channel_count fA fd ["setting"] (sp_channel_count K mg) := by
  refine ⟨F.okX sc_channel_count (fun vs H Q E h => h.1) (fun cdv A outer s H vs Q E hr h => ?_), m, F.kp, F.binds fun _ _ _ _ _ _ us hl => match us, hl with | [_], _ => rfl, F⟩
  have hu64 := hr.units
  obtain ⟨hlen, h⟩ := h
  refine ⟨_, (pss_one (ps_ret (pe_ifExp (pt_cmpR op_eq (pe_fld (pv 0) rfl) pe_int (nomark _)) pe_int pe_int))), ?_⟩
  obtain ⟨p, dx, r, l, T, rfl, hO, q⟩ := h
  unfold chan at q
  walk_at "r"
  refine ⟨p, _, dx, _, _, rfl, hO.o, Z.o_Setting.cl, Z.n_Setting_mode, rfl, ?_⟩
  walk_at "r"
  refine ifd (fun h1 => ?_) (fun h1 => ?_)
  · walk_at "r"
    rw [if_pos h1] at q
    exact q
  · walk_at "r"
    rw [if_neg h1] at q
    exact q
abbrev s_tile_spans : Stmt := topS 14
theorem sc_tile_spans : FnScope ["setting", "x0", "x1", "y0", "y1"] ["setting"] (defScope s_tile_spans) := ⟨rfl, rfl, rfl, by decide +kernel, rfl, by decide +kernel, by decide +kernel⟩
def Ok_tile_spans (P : Program) (w : World) (K : PySem.W.Frag) (mg : Str → Option Value) (base : Heap) : Prop := ∃ fA fd, Fn P w K mg base (L2.CX P w) 3 "tile_spans" s_tile_spans fA fd ["setting"] (sp_tile_spans K mg)
theorem okx_tile_spans (Z : Zs K mg) {fA : Addr} {fd : FuncData} (F : Fun K "tile_spans" "tile_spans" s_tile_spans fA fd) (m : mg "tile_spans" = some (.ref fA)) (C_Setting_rect : Ok_Setting_rect P w K mg base) : Fn P w K mg base (L2.CX P w) 3 "tile_spans" s_tile_spans fA fd ["setting"] (sp_tile_spans K mg) := by
  obtain ⟨_, _, _, C_Setting_rect, M_Setting_rect⟩ := C_Setting_rect
  refine ⟨F.okX sc_tile_spans (fun vs H Q E h => h.1) (fun cdv A outer s H vs Q E hr h => ?_), m, F.kp, F.binds fun _ _ _ _ _ _ us hl => match us, hl with | [_], _ => rfl, F⟩
  have hu64 := hr.units
  obtain ⟨hlen, h⟩ := h
  refine ⟨_, (pss_cons (ps_asg (pe_prop (pv 0) Z.o_Setting.cl M_Setting_rect C_Setting_rect.G (hr.mono (by decide)) C_Setting_rect.b .nil passL rfl) (pg_tup rfl (pgs_cons (pg_name (i := 1) sc_tile_spans.nd rfl (Or.inl rfl)) (pgs_cons (pg_name (i := 2) sc_tile_spans.nd rfl (Or.inl rfl)) (pgs_cons (pg_name (i := 3) sc_tile_spans.nd rfl (Or.inl rfl)) (pgs_cons (pg_name (i := 4) sc_tile_spans.nd rfl (Or.inl rfl)) pgs_nil))))))
    (pss_one (ps_ret (pe_tup (pa_cons (pe_op op_shr (pv 3) (pe_fld (pv 0) rfl)) (pa_cons (pe_op op_shr (pe_op op_sub (pv 4) pe_int) (pe_fld (pv 0) rfl)) (pa_cons (pe_op op_shr (pv 1) (pe_fld (pv 0) rfl)) (pa_cons (pe_op op_shr (pe_op op_sub (pv 2) pe_int) (pe_fld (pv 0) rfl)) pa_nil)))))))), ?_⟩
  obtain ⟨p, dx, r, l, T, rfl, hO, h0, h1, q⟩ := h
  walk_at "r"
  refine ⟨p, dx, _, rfl, hO.o, rfl, p, dx, r, l, T, rfl, hO, ?_⟩
  refine s_gtup (.of hO.r) rfl ?_
  unfold rectV
  walk_at "r"
  refine ⟨p, _, dx, _, _, rfl, hO.o, Z.o_Setting.cl, Z.n_Setting_ty, rfl, ?_⟩
  walk_at "r"
  refine ⟨p, _, dx, _, _, rfl, hO.o, Z.o_Setting.cl, Z.n_Setting_ty, rfl, ?_⟩
  walk_at "r"
  refine ⟨p, _, dx, _, _, rfl, hO.o, Z.o_Setting.cl, Z.n_Setting_tx, rfl, ?_⟩
  walk_at "r"
  refine ⟨p, _, dx, _, _, rfl, hO.o, Z.o_Setting.cl, Z.n_Setting_tx, rfl, ?_⟩
  walk_at "r"
  exact ⟨sz (by simp), fun p hp => q p hp⟩
abbrev s_line_count : Stmt := topS 15
theorem sc_line_count : FnScope ["setting", "top", "bottom", "left", "right"] ["setting"] (defScope s_line_count) := ⟨rfl, rfl, rfl, by decide +kernel, rfl, by decide +kernel, by decide +kernel⟩
def Ok_line_count (P : Program) (w : World) (K : PySem.W.Frag) (mg : Str → Option Value) (base : Heap) : Prop := ∃ fA fd, Fn P w K mg base (L2.CX P w) 4 "line_count" s_line_count fA fd ["setting"] (sp_line_count K mg)
theorem okx_line_count (Z : Zs K mg) {fA : Addr} {fd : FuncData} (F : Fun K "line_count" "line_count" s_line_count fA fd) (m : mg "line_count" = some (.ref fA)) (C_channel_count : Ok_channel_count P w K mg base) (C_tile_spans : Ok_tile_spans P w K mg base) : Fn P w K mg base (L2.CX P w) 4 "line_count" s_line_count fA fd ["setting"] (sp_line_count K mg) := by
  obtain ⟨_, _, C_channel_count⟩ := C_channel_count
  obtain ⟨_, _, C_tile_spans⟩ := C_tile_spans
  refine ⟨F.okX sc_line_count (fun vs H Q E h => h.1) (fun cdv A outer s H vs Q E hr h => ?_), m, F.kp, F.binds fun _ _ _ _ _ _ us hl => match us, hl with | [_], _ => rfl, F⟩
  have hu64 := hr.units
  obtain ⟨hlen, h⟩ := h
  refine ⟨_, (pss_cons (ps_asg (pe_call C_tile_spans.G (hr.mono (by decide)) rfl C_tile_spans.m C_tile_spans.kp C_tile_spans.b .nil passL (pa_cons (pv 0) pa_nil)) (pg_tup rfl (pgs_cons (pg_name (i := 1) sc_line_count.nd rfl (Or.inl rfl)) (pgs_cons (pg_name (i := 2) sc_line_count.nd rfl (Or.inl rfl)) (pgs_cons (pg_name (i := 3) sc_line_count.nd rfl (Or.inl rfl)) (pgs_cons (pg_name (i := 4) sc_line_count.nd rfl (Or.inl rfl)) pgs_nil))))))
    (pss_one (ps_ret (pe_op op_mul (pe_op op_mul (pe_op op_mul (pe_call C_channel_count.G (hr.mono (by decide)) rfl C_channel_count.m C_channel_count.kp C_channel_count.b .nil passL (pa_cons (pv 0) pa_nil)) (pe_op op_add (pe_op op_sub (pv 2) (pv 1)) pe_int)) (pe_op op_add (pe_op op_sub (pv 4) (pv 3)) pe_int)) (pe_op op_add (pe_callB call_len_str (by rfl) Z.z_len (by decide +kernel) (pa_cons (pe_fld (pv 0) rfl) pa_nil)) pe_int))))), ?_⟩
  obtain ⟨p, dx, r, l, T, rfl, hO, g, hB, q⟩ := h
  walk_at "r"
  refine ⟨rfl, p, dx, r, l, T, rfl, hO, g.tx.1, g.ty.1, fun p1 hp1 => ?_⟩
  have hO1 := hO.mono (Stp.new (S := S0) (o := .tup [.int (T.y0 / 2 ^ T.ty.toNat), .int ((T.y1 - 1) / 2 ^ T.ty.toNat), .int (T.x0 / 2 ^ T.tx.toNat), .int ((T.x1 - 1) / 2 ^ T.tx.toNat)]) (Same.refl H) hp1).same
  have e1 := (Stp.new (S := S0) (o := .tup [.int (T.y0 / 2 ^ T.ty.toNat), .int ((T.y1 - 1) / 2 ^ T.ty.toNat), .int (T.x0 / 2 ^ T.tx.toNat), .int ((T.x1 - 1) / 2 ^ T.tx.toNat)]) (Same.refl H) hp1).same
  refine s_gtup (.of upd_same) rfl ?_
  generalize upd H p1 _ = H1 at hO1 e1 ⊢
  walk_at "r"
  refine ⟨rfl, p, dx, r, l, T, rfl, hO1, ?_⟩
  walk_at "r"
  have cb : 1 ≤ chan T ∧ chan T ≤ 3 := by unfold chan; split <;> omega
  have b1 := tiles_b g.tx g.x0 g.w
  have b2 := tiles_b g.ty g.y0 g.h
  have hw := hB.w
  refine ⟨_, _, rfl, rfl, .inl ⟨by omega, by omega⟩, ?_⟩
  walk_at "r"
  refine ⟨p, _, dx, _, _, rfl, hO1.o, Z.o_Setting.cl, Z.n_Setting_word, rfl, ?_⟩
  walk_at "r"
  refine ⟨_, rfl, sz (by omega), ?_⟩
  walk_at "r"
  exact q _ e1
abbrev s_piece_count : Stmt := topS 16
theorem sc_piece_count : FnScope ["setting"] ["setting"] (defScope s_piece_count) := ⟨rfl, rfl, rfl, by decide +kernel, rfl, by decide +kernel, by decide +kernel⟩
def Ok_piece_count (P : Program) (w : World) (K : PySem.W.Frag) (mg : Str → Option Value) (base : Heap) : Prop := ∃ fA fd, Fn P w K mg base (L2.CX P w) 5 "piece_count" s_piece_count fA fd ["setting"] (sp_piece_count K mg)
theorem okx_piece_count (Z : Zs K mg) {fA : Addr} {fd : FuncData} (F : Fun K "piece_count" "piece_count" s_piece_count fA fd) (m : mg "piece_count" = some (.ref fA)) (C_line_count : Ok_line_count P w K mg base) : Fn P w K mg base (L2.CX P w) 5 "piece_count" s_piece_count fA fd ["setting"] (sp_piece_count K mg) := by
  obtain ⟨_, _, C_line_count⟩ := C_line_count
  refine ⟨F.okX sc_piece_count (fun vs H Q E h => h.1) (fun cdv A outer s H vs Q E hr h => ?_), m, F.kp, F.binds fun _ _ _ _ _ _ us hl => match us, hl with | [_], _ => rfl, F⟩
  have hu64 := hr.units
  obtain ⟨hlen, h⟩ := h
  refine ⟨_, (pss_one (ps_ret (pe_op op_mul (pe_call C_line_count.G (hr.mono (by decide)) rfl C_line_count.m C_line_count.kp C_line_count.b .nil passL (pa_cons (pv 0) pa_nil)) (pe_callB (c_len K rfl) (by rfl) Z.z_len (by decide +kernel) (pa_cons (pe_fld (pv 0) rfl) pa_nil))))), ?_⟩
  obtain ⟨p, dx, r, l, T, rfl, hO, g, hB, q⟩ := h
  walk_at "r"
  refine ⟨rfl, p, dx, r, l, T, rfl, hO, g, hB, fun H1 e1 => ?_⟩
  have hO1 := hO.mono e1
  walk_at "r"
  refine ⟨p, _, dx, _, _, rfl, hO1.o, Z.o_Setting.cl, Z.n_Setting_layers, rfl, ?_⟩
  walk_at "r"
  refine lenN (.inr hO1.l) ?_
  have hl := hB.l
  walk_at "r"
  exact q _ e1
abbrev s_Setting___init__ : Stmt := inClass (topS 12) 0
theorem sc_Setting___init__ : FnScope ["self", "rect", "mode", "tx", "ty", "word", "planes", "layers", "order", "x0", "x1", "y0", "y1", "answers", "name", "is_right"] ["self", "rect", "mode", "tx", "ty", "word", "planes", "layers", "order"] (defScope s_Setting___init__) := ⟨rfl, rfl, rfl, by decide +kernel, rfl, by decide +kernel, by decide +kernel⟩
def Ok_Setting___init__ (P : Program) (w : World) (K : PySem.W.Frag) (mg : Str → Option Value) (base : Heap) : Prop := ∃ fA fd, FnC P w K mg base (L2.CX P w) 6 "__init__" "Setting.__init__" s_Setting___init__ fA fd ["self", "rect", "mode", "tx", "ty", "word", "planes", "layers", "order"] (sp_Setting___init__ K mg) ∧ Mk K (exA mg "Setting") fA
theorem okx_Setting___init__ (Z : Zs K mg) {fA : Addr} {fd : FuncData} (F : Fun K "__init__" "Setting.__init__" s_Setting___init__ fA fd) (C_piece_count : Ok_piece_count P w K mg base) (C_TooMany___init__ : Ok_TooMany___init__ P w K mg base) (C_BadField___init__ : Ok_BadField___init__ P w K mg base) (C_are_layers : Ok_are_layers P w K mg base) (C_is_word : Ok_is_word P w K mg base) (C_is_side : Ok_is_side P w K mg base) : FnC P w K mg base (L2.CX P w) 6 "__init__" "Setting.__init__" s_Setting___init__ fA fd ["self", "rect", "mode", "tx", "ty", "word", "planes", "layers", "order"] (sp_Setting___init__ K mg) := by
  obtain ⟨_, _, C_piece_count⟩ := C_piece_count
  obtain ⟨_, _, C_TooMany___init__⟩ := C_TooMany___init__
  obtain ⟨_, _, C_BadField___init__⟩ := C_BadField___init__
  obtain ⟨_, _, C_are_layers⟩ := C_are_layers
  obtain ⟨_, _, C_is_word⟩ := C_is_word
  obtain ⟨_, _, C_is_side⟩ := C_is_side
  refine ⟨F.okX sc_Setting___init__ (fun vs H Q E h => h.1) (fun cdv A outer s H vs Q E hr h => ?_), F.binds fun _ _ _ _ _ _ us hl => match us, hl with | [_, _, _, _, _, _, _, _, _], _ => rfl, F⟩
  have hu64 := hr.units
  obtain ⟨hlen, h⟩ := h
  refine ⟨_, (pss_cons (ps_asg (pv 1) (pg_tup rfl (pgs_cons (pg_name (i := 9) sc_Setting___init__.nd rfl (Or.inl rfl)) (pgs_cons (pg_name (i := 10) sc_Setting___init__.nd rfl (Or.inl rfl)) (pgs_cons (pg_name (i := 11) sc_Setting___init__.nd rfl (Or.inl rfl)) (pgs_cons (pg_name (i := 12) sc_Setting___init__.nd rfl (Or.inl rfl)) pgs_nil))))))
    (pss_cons (ps_set (i := 13) sc_Setting___init__.nd rfl (Or.inl rfl) (pe_lst (pa_cons (pe_tup (pa_cons pe_str (pa_cons (pe_cmpR op_le (pe_callB call_abs (by rfl) Z.z_abs (by decide +kernel) (pa_cons (pv 9) pa_nil)) (pe_glob (v := .int (1073741824)) rfl Z.c_MOST_PLACE ⟨_, rfl⟩) (nomark _)) pa_nil))) (pa_cons (pe_tup (pa_cons pe_str (pa_cons (pe_call C_is_side.G (hr.mono (by decide)) rfl C_is_side.m C_is_side.kp C_is_side.b .nil passL (pa_cons (pv 9) (pa_cons (pv 10) pa_nil))) pa_nil))) (pa_cons (pe_tup (pa_cons pe_str (pa_cons (pe_cmpR op_le (pe_callB call_abs (by rfl) Z.z_abs (by decide +kernel) (pa_cons (pv 11) pa_nil)) (pe_glob (v := .int (1073741824)) rfl Z.c_MOST_PLACE ⟨_, rfl⟩) (nomark _)) pa_nil))) (pa_cons (pe_tup (pa_cons pe_str (pa_cons (pe_call C_is_side.G (hr.mono (by decide)) rfl C_is_side.m C_is_side.kp C_is_side.b .nil passL (pa_cons (pv 11) (pa_cons (pv 12) pa_nil))) pa_nil))) (pa_cons (pe_tup (pa_cons pe_str (pa_cons (pe_chain op_le op_le pe_int (pv 2) pe_int) pa_nil))) (pa_cons (pe_tup (pa_cons pe_str (pa_cons (pe_chain op_le op_le pe_int (pv 3) pe_int) pa_nil))) (pa_cons (pe_tup (pa_cons pe_str (pa_cons (pe_chain op_le op_le pe_int (pv 4) pe_int) pa_nil))) (pa_cons (pe_tup (pa_cons pe_str (pa_cons (pe_call C_is_word.G (hr.mono (by decide)) rfl C_is_word.m C_is_word.kp C_is_word.b .nil passL (pa_cons (pv 5) (pa_cons (pv 3) (pa_cons (pv 4) pa_nil)))) pa_nil))) (pa_cons (pe_tup (pa_cons pe_str (pa_cons (pe_chain op_le op_le pe_int (pv 6) pe_int) pa_nil))) (pa_cons (pe_tup (pa_cons pe_str (pa_cons (pe_call C_are_layers.G (hr.mono (by decide)) rfl C_are_layers.m C_are_layers.kp C_are_layers.b .nil passL (pa_cons (pv 7) (pa_cons (pv 6) pa_nil))) pa_nil))) (pa_cons (pe_tup (pa_cons pe_str (pa_cons (pe_cmpR (o_eqD K rfl hu64) (pe_callB (cr_sortedZ rfl) (by rfl) Z.z_sorted (by decide +kernel) (pa_cons (pv 8) pa_nil)) (pe_lst (pa_cons pe_str (pa_cons pe_str (pa_cons pe_str (pa_cons pe_str pa_nil))))) (nomark _)) pa_nil))) pa_nil)))))))))))))
    (pss_cons (ps_for (passes_of rfl) rfl (pi_list (pv 13)) (pg_tup rfl (pgs_cons (pg_name (i := 14) sc_Setting___init__.nd rfl (Or.inl rfl)) (pgs_cons (pg_name (i := 15) sc_Setting___init__.nd rfl (Or.inl rfl)) pgs_nil)))
      (pss_one (ps_if (pt_not (pt_val (pv 15)))
      (pss_one (ps_raise rfl (takes_of rfl rfl rfl rfl) (pmk_oex C_BadField___init__.T C_BadField___init__.i C_BadField___init__.t C_BadField___init__.F (hr.mono (by decide)) C_BadField___init__.b .nil passN rfl Z.x_BadField.g (pa_cons (pv 14) pa_nil))))
      pss_nil)))
    (pss_cons (ps_fld (pv 0) (pe_tup (pa_cons (pv 9) (pa_cons (pv 10) (pa_cons (pv 11) (pa_cons (pv 12) pa_nil))))) rfl)
    (pss_cons (ps_fld (pv 0) (pv 2) rfl)
    (pss_cons (ps_fld (pv 0) (pv 3) rfl)
    (pss_cons (ps_fld (pv 0) (pv 4) rfl)
    (pss_cons (ps_fld (pv 0) (pv 5) rfl)
    (pss_cons (ps_fld (pv 0) (pv 6) rfl)
    (pss_cons (ps_fld (pv 0) (pe_callTy call_tuple_of (by rfl) Z.z_tuple (by decide +kernel) (pa_cons (pv 7) pa_nil)) rfl)
    (pss_cons (ps_fld (pv 0) (pv 8) rfl)
    (pss_one (ps_if (pt_cmpR op_gt (pe_call C_piece_count.G (hr.mono (by decide)) rfl C_piece_count.m C_piece_count.kp C_piece_count.b .nil passL (pa_cons (pv 0) pa_nil)) (pe_glob (v := .int (2000)) rfl Z.c_MOST_PIECES ⟨_, rfl⟩) (nomark _))
      (pss_one (ps_raise rfl (takes_of rfl rfl rfl rfl) (pmk_oex C_TooMany___init__.T C_TooMany___init__.i C_TooMany___init__.t C_TooMany___init__.F (hr.mono (by decide)) C_TooMany___init__.b .nil passN rfl Z.x_TooMany.g (pa_cons (pe_glob (v := .int (2000)) rfl Z.c_MOST_PIECES ⟨_, rfl⟩) pa_nil))))
      pss_nil))))))))))))), ?_⟩
  obtain ⟨F, p, dx, r, l, T, rfl, ep, hF, Fp, hr0, hl0, hB, qf, qm, qo⟩ := h
  have w0 := hB.w
  walk_at "r"
  refine s_gtup (seqT' hF hr0) rfl ?_
  unfold rectV
  walk_at "r"
  refine ⟨_, rfl, ?_⟩
  walk_at "r"
  rw [place_eq]
  refine ⟨sz (by simp), fun t0 ht0 => ?_⟩
  have k0 := (Stp.new (S := S0) (o := .tup [.str (Str.ofString "x0"), .bl (okPlace T.x0)]) (Same.refl H) ht0).same
  have e0 : upd H t0 (.tup [.str (Str.ofString "x0"), .bl (okPlace T.x0)]) t0 = some (.tup [.str (Str.ofString "x0"), .bl (okPlace T.x0)]) := upd_same
  generalize upd H t0 _ = H0 at k0 e0 ⊢
  have s0 : Same H H0 := k0
  walk_at "r"
  refine ⟨rfl, _, _, rfl, ?_⟩
  walk_at "r"
  refine ⟨sz (by simp), fun t1 ht1 => ?_⟩
  have k1 := (Stp.new (S := S0) (o := .tup [.str (Str.ofString "width"), .bl (okSide T.x0 T.x1)]) (Same.refl H0) ht1).same
  have e1 : upd H0 t1 (.tup [.str (Str.ofString "width"), .bl (okSide T.x0 T.x1)]) t1 = some (.tup [.str (Str.ofString "width"), .bl (okSide T.x0 T.x1)]) := upd_same
  generalize upd H0 t1 _ = H1 at k1 e1 ⊢
  have s1 : Same H H1 := s0.trans k1
  replace e0 := k1 _ _ e0
  walk_at "r"
  refine ⟨_, rfl, ?_⟩
  walk_at "r"
  rw [place_eq]
  refine ⟨sz (by simp), fun t2 ht2 => ?_⟩
  have k2 := (Stp.new (S := S0) (o := .tup [.str (Str.ofString "y0"), .bl (okPlace T.y0)]) (Same.refl H1) ht2).same
  have e2 : upd H1 t2 (.tup [.str (Str.ofString "y0"), .bl (okPlace T.y0)]) t2 = some (.tup [.str (Str.ofString "y0"), .bl (okPlace T.y0)]) := upd_same
  generalize upd H1 t2 _ = H2 at k2 e2 ⊢
  have s2 : Same H H2 := s1.trans k2
  replace e0 := k2 _ _ e0
  replace e1 := k2 _ _ e1
  walk_at "r"
  refine ⟨rfl, _, _, rfl, ?_⟩
  walk_at "r"
  refine ⟨sz (by simp), fun t3 ht3 => ?_⟩
  have k3 := (Stp.new (S := S0) (o := .tup [.str (Str.ofString "height"), .bl (okSide T.y0 T.y1)]) (Same.refl H2) ht3).same
  have e3 : upd H2 t3 (.tup [.str (Str.ofString "height"), .bl (okSide T.y0 T.y1)]) t3 = some (.tup [.str (Str.ofString "height"), .bl (okSide T.y0 T.y1)]) := upd_same
  generalize upd H2 t3 _ = H3 at k3 e3 ⊢
  have s3 : Same H H3 := s2.trans k3
  replace e0 := k3 _ _ e0
  replace e1 := k3 _ _ e1
  replace e2 := k3 _ _ e2
  walk_at "r"
  refine mergeC ?_
  walk_at "r"
  refine ⟨sz (by simp), fun t4 ht4 => ?_⟩
  have k4 := (Stp.new (S := S0) (o := .tup [.str (Str.ofString "mode"), .bl (okIn 0 2 T.mode)]) (Same.refl H3) ht4).same
  have e4 : upd H3 t4 (.tup [.str (Str.ofString "mode"), .bl (okIn 0 2 T.mode)]) t4 = some (.tup [.str (Str.ofString "mode"), .bl (okIn 0 2 T.mode)]) := upd_same
  generalize upd H3 t4 _ = H4 at k4 e4 ⊢
  have s4 : Same H H4 := s3.trans k4
  replace e0 := k4 _ _ e0
  replace e1 := k4 _ _ e1
  replace e2 := k4 _ _ e2
  replace e3 := k4 _ _ e3
  walk_at "r"
  refine mergeC ?_
  walk_at "r"
  refine ⟨sz (by simp), fun t5 ht5 => ?_⟩
  have k5 := (Stp.new (S := S0) (o := .tup [.str (Str.ofString "tx"), .bl (okIn 0 5 T.tx)]) (Same.refl H4) ht5).same
  have e5 : upd H4 t5 (.tup [.str (Str.ofString "tx"), .bl (okIn 0 5 T.tx)]) t5 = some (.tup [.str (Str.ofString "tx"), .bl (okIn 0 5 T.tx)]) := upd_same
  generalize upd H4 t5 _ = H5 at k5 e5 ⊢
  have s5 : Same H H5 := s4.trans k5
  replace e0 := k5 _ _ e0
  replace e1 := k5 _ _ e1
  replace e2 := k5 _ _ e2
  replace e3 := k5 _ _ e3
  replace e4 := k5 _ _ e4
  walk_at "r"
  refine mergeC ?_
  walk_at "r"
  refine ⟨sz (by simp), fun t6 ht6 => ?_⟩
  have k6 := (Stp.new (S := S0) (o := .tup [.str (Str.ofString "ty"), .bl (okIn 0 5 T.ty)]) (Same.refl H5) ht6).same
  have e6 : upd H5 t6 (.tup [.str (Str.ofString "ty"), .bl (okIn 0 5 T.ty)]) t6 = some (.tup [.str (Str.ofString "ty"), .bl (okIn 0 5 T.ty)]) := upd_same
  generalize upd H5 t6 _ = H6 at k6 e6 ⊢
  have s6 : Same H H6 := s5.trans k6
  replace e0 := k6 _ _ e0
  replace e1 := k6 _ _ e1
  replace e2 := k6 _ _ e2
  replace e3 := k6 _ _ e3
  replace e4 := k6 _ _ e4
  replace e5 := k6 _ _ e5
  walk_at "r"
  refine ⟨rfl, _, _, _, rfl, w0, ?_⟩
  walk_at "r"
  refine ⟨sz (by simp), fun t7 ht7 => ?_⟩
  have k7 := (Stp.new (S := S0) (o := .tup [.str (Str.ofString "word"), .bl (okWord T.word T.tx T.ty)]) (Same.refl H6) ht7).same
  have e7 : upd H6 t7 (.tup [.str (Str.ofString "word"), .bl (okWord T.word T.tx T.ty)]) t7 = some (.tup [.str (Str.ofString "word"), .bl (okWord T.word T.tx T.ty)]) := upd_same
  generalize upd H6 t7 _ = H7 at k7 e7 ⊢
  have s7 : Same H H7 := s6.trans k7
  replace e0 := k7 _ _ e0
  replace e1 := k7 _ _ e1
  replace e2 := k7 _ _ e2
  replace e3 := k7 _ _ e3
  replace e4 := k7 _ _ e4
  replace e5 := k7 _ _ e5
  replace e6 := k7 _ _ e6
  walk_at "r"
  refine mergeC ?_
  walk_at "r"
  refine ⟨sz (by simp), fun t8 ht8 => ?_⟩
  have k8 := (Stp.new (S := S0) (o := .tup [.str (Str.ofString "planes"), .bl (okIn 1 20 T.planes)]) (Same.refl H7) ht8).same
  have e8 : upd H7 t8 (.tup [.str (Str.ofString "planes"), .bl (okIn 1 20 T.planes)]) t8 = some (.tup [.str (Str.ofString "planes"), .bl (okIn 1 20 T.planes)]) := upd_same
  generalize upd H7 t8 _ = H8 at k8 e8 ⊢
  have s8 : Same H H8 := s7.trans k8
  replace e0 := k8 _ _ e0
  replace e1 := k8 _ _ e1
  replace e2 := k8 _ _ e2
  replace e3 := k8 _ _ e3
  replace e4 := k8 _ _ e4
  replace e5 := k8 _ _ e5
  replace e6 := k8 _ _ e6
  replace e7 := k8 _ _ e7
  walk_at "r"
  refine ⟨rfl, l, T.layers, _, rfl, (hl0.mono (hF.trans s8)), ?_⟩
  walk_at "r"
  refine ⟨sz (by simp), fun t9 ht9 => ?_⟩
  have k9 := (Stp.new (S := S0) (o := .tup [.str (Str.ofString "layers"), .bl (okLay T.layers T.planes)]) (Same.refl H8) ht9).same
  have e9 : upd H8 t9 (.tup [.str (Str.ofString "layers"), .bl (okLay T.layers T.planes)]) t9 = some (.tup [.str (Str.ofString "layers"), .bl (okLay T.layers T.planes)]) := upd_same
  generalize upd H8 t9 _ = H9 at k9 e9 ⊢
  have s9 : Same H H9 := s8.trans k9
  replace e0 := k9 _ _ e0
  replace e1 := k9 _ _ e1
  replace e2 := k9 _ _ e2
  replace e3 := k9 _ _ e3
  replace e4 := k9 _ _ e4
  replace e5 := k9 _ _ e5
  replace e6 := k9 _ _ e6
  replace e7 := k9 _ _ e7
  replace e8 := k9 _ _ e8
  walk_at "r"
  refine ⟨T.order, rfl, hB.o, fun ys po hperm hsort hpo => ?_⟩
  have ko := (Stp.new (S := S0) (o := .lst (ys.map V.str)) (Same.refl H9) hpo).same
  have eo : upd H9 po (.lst (ys.map V.str)) po = some (.lst (ys.map V.str)) := upd_same
  generalize upd H9 po _ = Ho at ko eo ⊢
  walk_at "r"
  rw [bclt]
  refine ⟨sz (by simp), fun pq hpq => ?_⟩
  have kq := (Stp.new (S := S0) (o := .lst (([66, 67, 76, 84].map one).map V.str)) (Same.refl Ho) hpq).same
  have eq' : upd Ho pq (.lst (([66, 67, 76, 84].map one).map V.str)) pq = some (.lst (([66, 67, 76, 84].map one).map V.str)) := upd_same
  refine s_eqStrs (ns := ys) (ms := [66, 67, 76, 84].map one) (one_sg (fun c hc => hB.os c hc) hperm) (one_sg (a := [66, 67, 76, 84]) (by decide) (List.Perm.refl _)) (.of (kq _ _ eo)) (.of eq') ?_
  rw [ord_eq hperm hsort]
  have kp := ko.trans kq
  generalize upd Ho pq _ = Hp' at kq eq' kp ⊢
  walk_at "r"
  refine ⟨sz (by simp), fun t10 ht10 => ?_⟩
  have k10 := (Stp.new (S := S0) (o := .tup [.str (Str.ofString "order"), .bl (okOrd T.order)]) (Same.refl Hp') ht10).same
  have e10 : upd Hp' t10 (.tup [.str (Str.ofString "order"), .bl (okOrd T.order)]) t10 = some (.tup [.str (Str.ofString "order"), .bl (okOrd T.order)]) := upd_same
  generalize upd Hp' t10 _ = H10 at k10 e10 ⊢
  have s10 : Same H H10 := (s9.trans kp).trans k10
  replace e0 := k10 _ _ (kp _ _ e0)
  replace e1 := k10 _ _ (kp _ _ e1)
  replace e2 := k10 _ _ (kp _ _ e2)
  replace e3 := k10 _ _ (kp _ _ e3)
  replace e4 := k10 _ _ (kp _ _ e4)
  replace e5 := k10 _ _ (kp _ _ e5)
  replace e6 := k10 _ _ (kp _ _ e6)
  replace e7 := k10 _ _ (kp _ _ e7)
  replace e8 := k10 _ _ (kp _ _ e8)
  replace e9 := k10 _ _ (kp _ _ e9)
  walk_at "r"
  refine ⟨sz (by simp), fun an han => ?_⟩
  obtain ⟨vs, evs⟩ : ∃ vs : List V, vs = [.ref t0, .ref t1, .ref t2, .ref t3, .ref t4, .ref t5, .ref t6, .ref t7, .ref t8, .ref t9, .ref t10] := ⟨_, rfl⟩
  rw [← evs]
  have kn := (Stp.new (S := S0) (o := .lst vs) (Same.refl H10) han).same
  have en : upd H10 an (.lst vs) an = some (.lst vs) := upd_same
  generalize upd H10 an _ = H11 at kn en ⊢
  have tb : TupB H11 vs (oks T) := by
    rw [evs]
    exact .cons (kn _ _ e0) (.cons (kn _ _ e1) (.cons (kn _ _ e2) (.cons (kn _ _ e3) (.cons (kn _ _ e4) (.cons (kn _ _ e5) (.cons (kn _ _ e6) (.cons (kn _ _ e7) (.cons (kn _ _ e8) (.cons (kn _ _ e9) (.cons (kn _ _ e10) .nil))))))))))
  have s11 : Same H H11 := s10.trans kn
  clear e0 e1 e2 e3 e4 e5 e6 e7 e8 e9 e10 k0 k1 k2 k3 k4 k5 k6 k7 k8 k9 k10 ko kq kp s0 s1 s2 s3 s4 s5 s6 s7 s8 s9 s10 kn evs
  walk_at "r"
  refine ⟨_, rfl, ⟨_, .of en⟩, ?_⟩
  refine forL (xs := vs) (fun i σ H' => ∃ v1 v2, σ = [some (.ref p), some (.ref r), some (.int T.mode), some (.int T.tx), some (.int T.ty), some (.str T.word), some (.int T.planes), some (.ref l), some (.str T.order), some (.int T.x0), some (.int T.x1), some (.int T.y0), some (.int T.y1), some (.ref an), v1, v2] ∧ H11 = H' ∧ ∀ p ∈ (oks T).take i, p.2 = true) ⟨_, _, rfl, rfl, by simp⟩ (fun i σ H' _ ⟨_, _, _, e, _⟩ => e ▸ .of en) ?_ ?_
  · rintro i x σ H' hx ⟨v1, v2, rfl, rfl, hg⟩
    obtain ⟨t, n, b, rfl, hl, et⟩ := tb.get hx
    refine s_gtup (.of et) rfl ?_
    walk_at "r"
    cases b with
    | true =>
      walk_at "r"
      refine ⟨_, _, rfl, rfl, fun y hy => ?_⟩
      obtain ⟨hi, hx'⟩ := List.getElem?_eq_some_iff.mp hl
      rw [List.take_succ_eq_append_getElem hi, List.mem_append] at hy
      rcases hy with hy | hy
      · exact hg y hy
      · rw [hx', List.mem_singleton] at hy; rw [hy]
    | false =>
      have hw : wrong T = n := wrong_at hl hg
      obtain ⟨n1, n2⟩ := oks_nm (List.mem_of_getElem? hl)
      walk_at "r"
      refine s_mkO ?_
      walk_at "r"
      refine mkO_fin ⟨n, rfl, Nat.le_trans n2 (by decide)⟩ fun d hd => ?_
      exact qf d _ (by rw [hw]; exact n1) (hF.trans (s11.trans (Stp.new (S := S0) (Same.refl _) hd).same)) (by rw [hw]; exact upd_same)
  · rintro σ H' ⟨v1, v2, rfl, rfl, hg⟩
    rw [tb.len, List.take_length] at hg
    have hw : wrong T = "" := wrong_no hg
    have g := good_of hw
    walk_at "r"
    refine ⟨sz (by simp), fun q1 hq1 => ?_⟩
    have st1 := Stp.new (S := S1 p) (o := .tup (rectV T)) (hF.trans s11) hq1
    have er : upd F q1 (.tup (rectV T)) q1 = some (.tup (rectV T)) := upd_same
    replace ep := s11 _ _ ep
    have npq : p ≠ q1 := fun e => by rw [← e, ep] at hq1; cases hq1
    have Fp1 : upd F q1 (.tup (rectV T)) p = none := by rw [upd_ne npq]; exact Fp
    have ep1 : upd H11 q1 (.tup (rectV T)) p = some (.ins (exA mg "Setting") dx []) := by rw [upd_ne npq]; exact ep
    have sF1 := st1.fh
    have sff := st1.ff
    replace hl0 := hl0.mono sff
    generalize upd F q1 (.tup (rectV T)) = F1 at er Fp1 sF1 sff hl0
    unfold rectV at ep1 sF1
    generalize upd H11 q1 _ = Ha0 at ep1 sF1 ⊢
    walk_at "r"
    refine ⟨p, _, dx, _, rfl, ep1, Z.o_Setting.cl, Z.n_Setting__rect, (by show 0 < 1000; decide), ?_⟩
    generalize eX : upd Ha0 p _ = Ha1
    have ep2 : Ha1 p = some (.ins (exA mg "Setting") dx [("_rect", V.ref q1)]) := by rw [← eX]; exact upd_same
    have sF2 : Same F1 Ha1 := by rw [← eX]; exact (Stp.wr (S := S1 p) sF1 rfl Fp1).fh
    clear eX
    walk_at "r"
    refine ⟨p, _, dx, _, rfl, ep2, Z.o_Setting.cl, Z.n_Setting_mode, (by show 1 < 1000; decide), ?_⟩
    generalize eX : upd Ha1 p _ = Ha2
    have ep3 : Ha2 p = some (.ins (exA mg "Setting") dx [("_rect", V.ref q1), ("mode", V.int T.mode)]) := by rw [← eX]; exact upd_same
    have sF3 : Same F1 Ha2 := by rw [← eX]; exact (Stp.wr (S := S1 p) sF2 rfl Fp1).fh
    clear eX
    walk_at "r"
    refine ⟨p, _, dx, _, rfl, ep3, Z.o_Setting.cl, Z.n_Setting_tx, (by show 2 < 1000; decide), ?_⟩
    generalize eX : upd Ha2 p _ = Ha3
    have ep4 : Ha3 p = some (.ins (exA mg "Setting") dx [("_rect", V.ref q1), ("mode", V.int T.mode), ("tx", V.int T.tx)]) := by rw [← eX]; exact upd_same
    have sF4 : Same F1 Ha3 := by rw [← eX]; exact (Stp.wr (S := S1 p) sF3 rfl Fp1).fh
    clear eX
    walk_at "r"
    refine ⟨p, _, dx, _, rfl, ep4, Z.o_Setting.cl, Z.n_Setting_ty, (by show 3 < 1000; decide), ?_⟩
    generalize eX : upd Ha3 p _ = Ha4
    have ep5 : Ha4 p = some (.ins (exA mg "Setting") dx [("_rect", V.ref q1), ("mode", V.int T.mode), ("tx", V.int T.tx), ("ty", V.int T.ty)]) := by rw [← eX]; exact upd_same
    have sF5 : Same F1 Ha4 := by rw [← eX]; exact (Stp.wr (S := S1 p) sF4 rfl Fp1).fh
    clear eX
    walk_at "r"
    refine ⟨p, _, dx, _, rfl, ep5, Z.o_Setting.cl, Z.n_Setting_word, (by show 4 < 1000; decide), ?_⟩
    generalize eX : upd Ha4 p _ = Ha5
    have ep6 : Ha5 p = some (.ins (exA mg "Setting") dx [("_rect", V.ref q1), ("mode", V.int T.mode), ("tx", V.int T.tx), ("ty", V.int T.ty), ("word", V.str T.word)]) := by rw [← eX]; exact upd_same
    have sF6 : Same F1 Ha5 := by rw [← eX]; exact (Stp.wr (S := S1 p) sF5 rfl Fp1).fh
    clear eX
    walk_at "r"
    refine ⟨p, _, dx, _, rfl, ep6, Z.o_Setting.cl, Z.n_Setting_planes, (by show 5 < 1000; decide), ?_⟩
    generalize eX : upd Ha5 p _ = Ha6
    have ep7 : Ha6 p = some (.ins (exA mg "Setting") dx [("_rect", V.ref q1), ("mode", V.int T.mode), ("tx", V.int T.tx), ("ty", V.int T.ty), ("word", V.str T.word), ("planes", V.int T.planes)]) := by rw [← eX]; exact upd_same
    have sF7 : Same F1 Ha6 := by rw [← eX]; exact (Stp.wr (S := S1 p) sF6 rfl Fp1).fh
    clear eX
    walk_at "r"
    rcases hl0 with hl0 | hl0
    · refine ⟨l, _, rfl, .inl ⟨sF7.seq hl0, fun l' hl' => ?_⟩⟩
      have st2 := Stp.new (S := S1 p) (o := .tup (T.layers.map V.int)) sF7 hl'
      have el' : upd F1 l' (.tup (T.layers.map V.int)) l' = some (.tup (T.layers.map V.int)) := upd_same
      have npl : p ≠ l' := fun e => by rw [← e, ep7] at hl'; cases hl'
      have Fp2 : upd F1 l' (.tup (T.layers.map V.int)) p = none := by rw [upd_ne npl]; exact Fp1
      have epb : upd Ha6 l' (.tup (T.layers.map V.int)) p = some (.ins (exA mg "Setting") dx [("_rect", V.ref q1), ("mode", V.int T.mode), ("tx", V.int T.tx), ("ty", V.int T.ty), ("word", V.str T.word), ("planes", V.int T.planes)]) := by rw [upd_ne npl]; exact ep7
      have sFb := st2.fh
      have f12 := st2.ff
      generalize upd F1 l' (.tup (T.layers.map V.int)) = F2 at el' Fp2 sFb f12
      generalize upd Ha6 l' _ = Hb at epb sFb ⊢
      walk_at "r"
      refine ⟨p, _, dx, _, rfl, epb, Z.o_Setting.cl, Z.n_Setting_layers, (by show 6 < 1000; decide), ?_⟩
      generalize eX : upd Hb p _ = Ha7
      have ep8 : Ha7 p = some (.ins (exA mg "Setting") dx [("_rect", V.ref q1), ("mode", V.int T.mode), ("tx", V.int T.tx), ("ty", V.int T.ty), ("word", V.str T.word), ("planes", V.int T.planes), ("layers", V.ref l')]) := by rw [← eX]; exact upd_same
      have sF8 : Same F2 Ha7 := by rw [← eX]; exact (Stp.wr (S := S1 p) sFb rfl Fp2).fh
      clear eX
      walk_at "r"
      refine ⟨p, _, dx, _, rfl, ep8, Z.o_Setting.cl, Z.n_Setting_order, (by show 7 < 1000; decide), ?_⟩
      generalize eX : upd Ha7 p _ = Ha8
      have ep9 : Ha8 p = some (.ins (exA mg "Setting") dx [("_rect", V.ref q1), ("mode", V.int T.mode), ("tx", V.int T.tx), ("ty", V.int T.ty), ("word", V.str T.word), ("planes", V.int T.planes), ("layers", V.ref l'), ("order", V.str T.order)]) := by rw [← eX]; exact upd_same
      have sF9 : Same F2 Ha8 := by rw [← eX]; exact (Stp.wr (S := S1 p) sF8 rfl Fp2).fh
      clear eX
      walk_at "r"
      have hO : SetO K mg Ha8 p dx q1 l' T := ⟨ep9, sF9 _ _ (f12 _ _ er), .of (sF9 _ _ el')⟩
      refine ⟨rfl, p, dx, q1, l', T, rfl, hO, g, hB, fun H9 s9 => ?_⟩
      walk_at "r"
      refine ifd (fun hgt => ?_) (fun hgt => ?_)
      · walk_at "r"
        refine s_mkO ?_
        walk_at "r"
        refine mkO_fin rfl fun d hd => ?_
        exact qm d _ hw hgt ((sff.trans f12).trans (sF9.trans (s9.trans (Stp.new (S := S0) (Same.refl _) hd).same))) upd_same
      · walk_at "r"
        exact qo q1 l' _ hw hgt ((sff.trans f12).trans (sF9.trans s9)) (hO.mono s9)
    · refine ⟨l, _, rfl, .inr ⟨seqT' sF7 hl0, ?_⟩⟩
      walk_at "r"
      refine ⟨p, _, dx, _, rfl, ep7, Z.o_Setting.cl, Z.n_Setting_layers, (by show 6 < 1000; decide), ?_⟩
      generalize eX : upd Ha6 p _ = Ha7
      have ep8 : Ha7 p = some (.ins (exA mg "Setting") dx [("_rect", V.ref q1), ("mode", V.int T.mode), ("tx", V.int T.tx), ("ty", V.int T.ty), ("word", V.str T.word), ("planes", V.int T.planes), ("layers", V.ref l)]) := by rw [← eX]; exact upd_same
      have sF8 : Same F1 Ha7 := by rw [← eX]; exact (Stp.wr (S := S1 p) sF7 rfl Fp1).fh
      clear eX
      walk_at "r"
      refine ⟨p, _, dx, _, rfl, ep8, Z.o_Setting.cl, Z.n_Setting_order, (by show 7 < 1000; decide), ?_⟩
      generalize eX : upd Ha7 p _ = Ha8
      have ep9 : Ha8 p = some (.ins (exA mg "Setting") dx [("_rect", V.ref q1), ("mode", V.int T.mode), ("tx", V.int T.tx), ("ty", V.int T.ty), ("word", V.str T.word), ("planes", V.int T.planes), ("layers", V.ref l), ("order", V.str T.order)]) := by rw [← eX]; exact upd_same
      have sF9 : Same F1 Ha8 := by rw [← eX]; exact (Stp.wr (S := S1 p) sF8 rfl Fp1).fh
      clear eX
      walk_at "r"
      have hO : SetO K mg Ha8 p dx q1 l T := ⟨ep9, sF9 _ _ (er), seqT' sF9 hl0⟩
      refine ⟨rfl, p, dx, q1, l, T, rfl, hO, g, hB, fun H9 s9 => ?_⟩
      walk_at "r"
      refine ifd (fun hgt => ?_) (fun hgt => ?_)
      · walk_at "r"
        refine s_mkO ?_
        walk_at "r"
        refine mkO_fin rfl fun d hd => ?_
        exact qm d _ hw hgt ((sff).trans (sF9.trans (s9.trans (Stp.new (S := S0) (Same.refl _) hd).same))) upd_same
      · walk_at "r"
        exact qo q1 l _ hw hgt ((sff).trans (sF9.trans s9)) (hO.mono s9)
abbrev s_law_pool : Stmt := topS 18
theorem sc_law_pool : FnScope ["_law_script", "_law_k", "_law_cell", "_law_big", "_law_mixed"] ["_law_script", "_law_k"] (defScope s_law_pool) := ⟨rfl, rfl, rfl, by decide +kernel, rfl, by decide +kernel, by decide +kernel⟩
def Ok_law_pool (P : Program) (w : World) (K : PySem.W.Frag) (mg : Str → Option Value) (base : Heap) : Prop := ∃ fA fd, Fn P w K mg base (L2.CX P w) 1 "_law_pool" s_law_pool fA fd ["_law_script", "_law_k"] (sp_law_pool K mg)
theorem okx_law_pool (Z : Zs K mg) {fA : Addr} {fd : FuncData} (F : Fun K "_law_pool" "_law_pool" s_law_pool fA fd) (m : mg "_law_pool" = some (.ref fA))  : Fn P w K mg base (L2.CX P w) 1 "_law_pool" s_law_pool fA fd ["_law_script", "_law_k"] (sp_law_pool K mg) := by
  refine ⟨F.okX sc_law_pool (fun vs H Q E h => h.1) (fun cdv A outer s H vs Q E hr h => ?_), m, F.kp, F.binds fun _ _ _ _ _ _ us hl => match us, hl with | [_, _], _ => rfl, F⟩
  have hu64 := hr.units
  obtain ⟨hlen, h⟩ := h
  refine ⟨_, (pss_cons (ps_set (i := 2) sc_law_pool.nd rfl (Or.inl rfl) pe_int)
    (pss_cons (ps_if (pt_cmpR op_lt (pv 1) (pe_callB (c_len K rfl) (by rfl) Z.z_len (by decide +kernel) (pa_cons (pv 0) pa_nil)) (nomark _))
      (pss_one (ps_set (i := 2) sc_law_pool.nd rfl (Or.inl rfl) (pe_ix (i_list K rfl) (pv 0) (pv 1) (fun _ _ => rfl))))
      pss_nil)
    (pss_cons (ps_set (i := 3) sc_law_pool.nd rfl (Or.inl rfl) (pe_callB (c_max2 rfl) (by rfl) Z.z_max (by decide +kernel) (pa_cons (pe_callTy c_int1 (by rfl) Z.z_int (by decide +kernel) (pa_cons (pv 2) pa_nil)) (pa_cons (pe_callTy c_int1 (by rfl) Z.z_int (by decide +kernel) (pa_cons (pe_op op_sub (pe_un un_neg pe_int) (pv 2)) pa_nil)) pa_nil))))
    (pss_cons (ps_set (i := 4) sc_law_pool.nd rfl (Or.inl rfl) (pe_op op_mod (pe_callTy c_int1 (by rfl) Z.z_int (by decide +kernel) (pa_cons (pe_op op_mul (pe_op op_add (pe_op op_add (pe_op op_add (pe_op op_mod (pe_callTy c_int1 (by rfl) Z.z_int (by decide +kernel) (pa_cons (pv 3) pa_nil)) pe_int) (pe_op op_mul (pe_op op_mul pe_int (pv 1)) (pv 1))) (pe_op op_mul pe_int (pv 1))) pe_int) pe_int) pa_nil)) pe_int))
    (pss_one (ps_ret (pe_lst (pa_cons (pe_op op_mul (pv 3) (pe_callTy c_int1 (by rfl) Z.z_int (by decide +kernel) (pa_cons (pe_cmpR op_ge (pv 3) (pe_op op_pow pe_int pe_int) (nomark _)) pa_nil))) (pa_cons (pv 4) pa_nil))))))))), ?_⟩
  obtain ⟨s, ns, k, rfl, hS, hk0, hk, q⟩ := h
  have fin : ∀ (x y : Int), 0 ≤ y → y < 2147483647 → (∀ p, H p = none → Q (.ref p) (upd H p (.lst [.int x, .int y]))) := fun x y y0 y1 p hp =>
    q p _ ⟨(Stp.new (S := S0) (Same.refl H) hp).same, hp, x, y, upd_same, y0, y1⟩
  walk_at "r"
  refine ifd (fun h => ?_) (fun h => ?_)
  · walk_at "r"
    have hl : k.toNat < ns.length := by simp at h; omega
    refine s_ixL hS (at_of (j := k.toNat) (by omega) (get_int hl)) ?_
    walk_at "r"
    exact ⟨sz (by simp), fin _ _ (Int.emod_nonneg _ (by decide)) (Int.emod_lt_of_pos _ (by decide))⟩
  · walk_at "r"
    exact ⟨sz (by simp), fin _ _ (Int.emod_nonneg _ (by decide)) (Int.emod_lt_of_pos _ (by decide))⟩
abbrev s_law_take : Stmt := topS 19
theorem sc_law_take : FnScope ["_law_source", "_law_top", "_law_drawn"] ["_law_source", "_law_top"] (defScope s_law_take) := ⟨rfl, rfl, rfl, by decide +kernel, rfl, by decide +kernel, by decide +kernel⟩
def Ok_law_take (P : Program) (w : World) (K : PySem.W.Frag) (mg : Str → Option Value) (base : Heap) : Prop := ∃ fA fd, Fn P w K mg base (L2.CX P w) 1 "_law_take" s_law_take fA fd ["_law_source", "_law_top"] (sp_law_take K mg)
theorem okx_law_take (Z : Zs K mg) {fA : Addr} {fd : FuncData} (F : Fun K "_law_take" "_law_take" s_law_take fA fd) (m : mg "_law_take" = some (.ref fA))  : Fn P w K mg base (L2.CX P w) 1 "_law_take" s_law_take fA fd ["_law_source", "_law_top"] (sp_law_take K mg) := by
  refine ⟨F.okX sc_law_take (fun vs H Q E h => h.1) (fun cdv A outer s H vs Q E hr h => ?_), m, F.kp, F.binds fun _ _ _ _ _ _ us hl => match us, hl with | [_, _], _ => rfl, F⟩
  have hu64 := hr.units
  obtain ⟨hlen, h⟩ := h
  refine ⟨_, (pss_cons (ps_if (pt_cmpR op_gt (pe_ix (i_list K rfl) (pv 0) pe_int (fun _ _ => rfl)) pe_int (nomark _))
      (pss_cons (ps_set (i := 2) sc_law_take.nd rfl (Or.inl rfl) (pe_op op_mod (pe_callTy c_int1 (by rfl) Z.z_int (by decide +kernel) (pa_cons (pe_ix (i_list K rfl) (pv 0) pe_int (fun _ _ => rfl)) pa_nil)) (pv 1)))
    (pss_cons (ps_asg (pe_op op_fdiv (pe_ix (i_list K rfl) (pv 0) pe_int (fun _ _ => rfl)) (pv 1)) (pg_sub (pv 0) pe_int set_list))
    (pss_one (ps_ret (pv 2)))))
      pss_nil)
    (pss_cons (ps_asg (pe_op op_mod (pe_callTy c_int1 (by rfl) Z.z_int (by decide +kernel) (pa_cons (pe_op op_add (pe_op op_mul (pe_ix (i_list K rfl) (pv 0) pe_int (fun _ _ => rfl)) pe_int) pe_int) pa_nil)) pe_int) (pg_sub (pv 0) pe_int set_list))
    (pss_one (ps_ret (pe_op op_mod (pe_callTy c_int1 (by rfl) Z.z_int (by decide +kernel) (pa_cons (pe_op op_fdiv (pe_op op_mod (pe_callTy c_int1 (by rfl) Z.z_int (by decide +kernel) (pa_cons (pe_op op_mul (pe_ix (i_list K rfl) (pv 0) pe_int (fun _ _ => rfl)) (pe_ix (i_list K rfl) (pv 0) pe_int (fun _ _ => rfl))) pa_nil)) pe_int) pe_int) pa_nil)) (pv 1)))))), ?_⟩
  obtain ⟨F0, p, t, rfl, hs, ht, ht2, q⟩ := h
  obtain ⟨hs0, hp0, a, b, hp, hb0, hb1⟩ := id hs
  have st : ∀ o, Stp (S1 p) F0 H F0 (upd H p o) := fun o => Stp.wr hs0 rfl hp0
  walk_at "r"
  refine ifd (fun h => ?_) (fun h => ?_)
  · walk_at "r"
    exact q _ _ (hs.wr hb0 hb1) (st _) (Int.emod_nonneg _ (by omega)) (Int.emod_lt_of_pos _ ht)
  · walk_at "r"
    exact q _ _ (hs.wr (Int.emod_nonneg _ (by decide)) (Int.emod_lt_of_pos _ (by decide))) (st _) (Int.emod_nonneg _ (by omega)) (Int.emod_lt_of_pos _ ht)
abbrev s_law_one : Stmt := topS 20
theorem sc_law_one : FnScope ["_law_source", "_law_things_here"] ["_law_source", "_law_things_here"] (defScope s_law_one) := ⟨rfl, rfl, rfl, by decide +kernel, rfl, by decide +kernel, by decide +kernel⟩
def Ok_law_one (P : Program) (w : World) (K : PySem.W.Frag) (mg : Str → Option Value) (base : Heap) : Prop := ∃ fA fd, Fn P w K mg base (L2.CX P w) 2 "_law_one" s_law_one fA fd ["_law_source", "_law_things_here"] (sp_law_one K mg)
theorem okx_law_one (Z : Zs K mg) {fA : Addr} {fd : FuncData} (F : Fun K "_law_one" "_law_one" s_law_one fA fd) (m : mg "_law_one" = some (.ref fA)) (C_law_take : Ok_law_take P w K mg base) : Fn P w K mg base (L2.CX P w) 2 "_law_one" s_law_one fA fd ["_law_source", "_law_things_here"] (sp_law_one K mg) := by
  obtain ⟨_, _, C_law_take⟩ := C_law_take
  refine ⟨F.okX sc_law_one (fun vs H Q E h => h.1) (fun cdv A outer s H vs Q E hr h => ?_), m, F.kp, F.binds fun _ _ _ _ _ _ us hl => match us, hl with | [_, _], _ => rfl, F⟩
  have hu64 := hr.units
  obtain ⟨hlen, h⟩ := h
  refine ⟨_, (pss_one (ps_ret (pe_ix (i_list K rfl) (pv 1) (pe_call C_law_take.G (hr.mono (by decide)) rfl C_law_take.m C_law_take.kp C_law_take.b .nil passL (pa_cons (pv 0) (pa_cons (pe_callB (c_len K rfl) (by rfl) Z.z_len (by decide +kernel) (pa_cons (pv 1) pa_nil)) pa_nil))) (fun _ _ => rfl)))), ?_⟩
  obtain ⟨F0, p, a, xs, rfl, hs, hn, hn0, hn1, q⟩ := h
  have ha := hs.1.seq hn
  walk_at "r"
  refine ⟨rfl, F0, p, _, rfl, hs, by omega, by omega, fun r H1 s1 st1 r0 r1 => ?_⟩
  walk_at "r"
  have hl : r.toNat < xs.length := by omega
  exact s_ixL (s1.1.seq hn) (at_of (j := r.toNat) (by omega) (List.getElem?_eq_getElem hl)) (q _ _ s1 st1 (List.getElem_mem hl))
abbrev s_law_layers : Stmt := topS 21
theorem sc_law_layers : FnScope ["_law_source", "_law_planes", "_law_left", "_law_found", "_law_turn"] ["_law_source", "_law_planes"] (defScope s_law_layers) := ⟨rfl, rfl, rfl, by decide +kernel, rfl, by decide +kernel, by decide +kernel⟩
def Ok_law_layers (P : Program) (w : World) (K : PySem.W.Frag) (mg : Str → Option Value) (base : Heap) : Prop := ∃ fA fd, Fn P w K mg base (L2.CX P w) 2 "_law_layers" s_law_layers fA fd ["_law_source", "_law_planes"] (sp_law_layers K mg)
theorem okx_law_layers (Z : Zs K mg) {fA : Addr} {fd : FuncData} (F : Fun K "_law_layers" "_law_layers" s_law_layers fA fd) (m : mg "_law_layers" = some (.ref fA)) (C_law_take : Ok_law_take P w K mg base) : Fn P w K mg base (L2.CX P w) 2 "_law_layers" s_law_layers fA fd ["_law_source", "_law_planes"] (sp_law_layers K mg) := by
  obtain ⟨_, _, C_law_take⟩ := C_law_take
  refine ⟨F.okX sc_law_layers (fun vs H Q E h => h.1) (fun cdv A outer s H vs Q E hr h => ?_), m, F.kp, F.binds fun _ _ _ _ _ _ us hl => match us, hl with | [_, _], _ => rfl, F⟩
  have hu64 := hr.units
  obtain ⟨hlen, h⟩ := h
  refine ⟨_, (pss_cons (ps_par (i := 2) (j := 3) (by rfl) sc_law_layers.nd rfl rfl (by decide) rfl rfl (pa_cons (pe_op op_mul pe_int (pv 1)) (pa_cons (pe_lst pa_nil) pa_nil)) (by rfl))
    (pss_cons (ps_for (passes_of rfl) rfl (pi_range1 rfl Z.z_range (pa_cons (pe_call C_law_take.G (hr.mono (by decide)) rfl C_law_take.m C_law_take.kp C_law_take.b .nil passL (pa_cons (pv 0) (pa_cons pe_int pa_nil))) pa_nil)) (pg_name (i := 4) sc_law_layers.nd rfl (Or.inl rfl))
      (pss_one (ps_if (pt_cmpR op_gt (pv 2) pe_int (nomark _))
      (pss_cons (ps_expr (pe_bm PySem.F.plainAttrs_list PySem.F.slot_list_append PySem.F.type_list_append mt_append (pv 3) (pa_cons (pe_op op_add pe_int (pe_call C_law_take.G (hr.mono (by decide)) rfl C_law_take.m C_law_take.kp C_law_take.b .nil passL (pa_cons (pv 0) (pa_cons (pe_op op_sub (pv 2) pe_int) pa_nil)))) pa_nil)))
    (pss_one (ps_set (i := 2) sc_law_layers.nd rfl (Or.inl rfl) (pe_op op_sub (pv 2) (pe_ix (i_list K rfl) (pv 3) (pe_un un_neg pe_int) (fun _ _ => rfl))))))
      pss_nil)))
    (pss_one (ps_ret (pe_op op_cat (pv 3) (pe_lst (pa_cons (pv 2) pa_nil))))))), ?_⟩
  obtain ⟨F0, p, m, rfl, hs, m0, m1, q⟩ := h
  walk_at "r"
  refine ⟨sz (by simp), fun q1 hq1 => ?_⟩
  have n1 : q1 ≠ p := (hs.ne hq1).symm
  have f1 : F0 q1 = none := hs.1.free hq1
  have s1 := hs.upd (o := .lst []) n1 f1
  have t1 : Stp (S1 p) F0 H F0 (upd H q1 (.lst [])) := Stp.cell hs.1 hq1
  have e1 : upd H q1 (.lst []) q1 = some (.lst ([].map V.int)) := upd_same
  generalize upd H q1 (.lst []) = H1 at s1 t1 e1 ⊢
  walk_at "r"
  refine ⟨rfl, F0, p, 4, rfl, s1, by decide, by decide, fun k H2 s2 t2 k0 k1 => ?_⟩
  replace e1 := t2.keep q1 _ n1 e1
  walk_at "r"
  refine ⟨_, rfl, by omega, by omega, ?_⟩
  refine forR (fun i σ H' => ∃ (left : Int) (ls : List Int) (v : Option V), σ = [some (.ref p), some (.int m), some (.int left), some (.ref q1), v] ∧ H' q1 = some (.lst (ls.map V.int)) ∧ ls.length ≤ i ∧ 1 ≤ left ∧ left ≤ 60 ∧ Src F0 H' p ∧ Stp (S1 p) F0 H F0 H') ⟨3 * m, [], _, rfl, e1, by simp, by omega, by omega, s2, t1.trans t2⟩ ?_ ?_
  · rintro i σ H3 hi ⟨left, ls, v, rfl, e3, l3, lf0, lf1, s3, t3⟩
    walk_at "r"
    refine ifd (fun h => ?_) (fun h => ?_)
    · walk_at "r"
      refine ⟨.inl ⟨rfl, _, SqL.of e3⟩, ?_⟩
      walk_at "r"
      refine ⟨rfl, F0, p, _, rfl, s3, by omega, by omega, fun r H4 s4 t4 r0 r1 => ?_⟩
      have e4 := t4.keep q1 _ n1 e3
      walk_at "r"
      refine ⟨q1, _, _, rfl, rfl, e4, Nat.lt_of_le_of_lt (by rw [List.length_map]; omega : (ls.map V.int).length ≤ 100) (by decide), ?_⟩
      have s5 := s4.upd (o := .lst (ls.map V.int ++ [V.int (1 + r)])) n1 f1
      have t5 := (t3.trans t4).wrNew (o := .lst (ls.map V.int ++ [V.int (1 + r)])) hq1 f1
      have e5 : upd H4 q1 (.lst (ls.map V.int ++ [V.int (1 + r)])) q1 = some (.lst (ls.map V.int ++ [V.int (1 + r)])) := upd_same
      generalize upd H4 q1 _ = H5 at s5 t5 e5 ⊢
      walk_at "r"
      refine s_ixL (.of e5) (atI_last1 _ _) ?_
      walk_at "r"
      exact ⟨_, ls ++ [1 + r], _, rfl, by simpa using e5, by simp; omega, by omega, by omega, s5, t5⟩
    · walk_at "r"
      exact ⟨left, ls, _, rfl, e3, by omega, lf0, lf1, s3, t3⟩
  · rintro σ H3 ⟨left, ls, v, rfl, e3, l3, lf0, lf1, s3, t3⟩
    walk_at "r"
    refine ⟨sz (by simp), fun q2 hq2 => ?_⟩
    have n12 : q1 ≠ q2 := fun e => by rw [← e, e3] at hq2; cases hq2
    have s4 := s3.new (o := .lst [.int left]) hq2
    have t4 := t3.trans (Stp.new (S := S1 p) (o := .lst [.int left]) s3.1 hq2)
    have e4 : upd H3 q2 (.lst [.int left]) q1 = some (.lst (ls.map V.int)) := by rw [upd_ne n12]; exact e3
    have e4' : upd H3 q2 (.lst [.int left]) q2 = some (.lst [.int left]) := upd_same
    generalize upd F0 q2 _ = F4 at s4 t4
    generalize upd H3 q2 _ = H4 at s4 t4 e4 e4' ⊢
    walk_at "r"
    refine ⟨q1, q2, _, _, rfl, rfl, e4, e4', sz (by simp; omega), fun q3 hq3 => ?_⟩
    rw [show (ls.map V.int ++ [V.int left]) = (ls ++ [left]).map V.int by simp]
    exact q q3 (ls ++ [left]) _ _ (s4.new hq3) (t4.trans (Stp.new s4.1 hq3)) upd_same (by simp) (by simp; omega)
abbrev s_law_side : Stmt := topS 22
theorem sc_law_side : FnScope ["_law_source", "_law_begin", "_law_many"] ["_law_source"] (defScope s_law_side) := ⟨rfl, rfl, rfl, by decide +kernel, rfl, by decide +kernel, by decide +kernel⟩
def Ok_law_side (P : Program) (w : World) (K : PySem.W.Frag) (mg : Str → Option Value) (base : Heap) : Prop := ∃ fA fd, Fn P w K mg base (L2.CX P w) 3 "_law_side" s_law_side fA fd ["_law_source"] (sp_law_side K mg)
theorem okx_law_side (Z : Zs K mg) {fA : Addr} {fd : FuncData} (F : Fun K "_law_side" "_law_side" s_law_side fA fd) (m : mg "_law_side" = some (.ref fA)) (C_law_take : Ok_law_take P w K mg base) (C_law_one : Ok_law_one P w K mg base) : Fn P w K mg base (L2.CX P w) 3 "_law_side" s_law_side fA fd ["_law_source"] (sp_law_side K mg) := by
  obtain ⟨_, _, C_law_take⟩ := C_law_take
  obtain ⟨_, _, C_law_one⟩ := C_law_one
  refine ⟨F.okX sc_law_side (fun vs H Q E h => h.1) (fun cdv A outer s H vs Q E hr h => ?_), m, F.kp, F.binds fun _ _ _ _ _ _ us hl => match us, hl with | [_], _ => rfl, F⟩
  have hu64 := hr.units
  obtain ⟨hlen, h⟩ := h
  refine ⟨_, (pss_cons (ps_set (i := 1) sc_law_side.nd rfl (Or.inl rfl) (pe_call C_law_one.G (hr.mono (by decide)) rfl C_law_one.m C_law_one.kp C_law_one.b .nil passL (pa_cons (pv 0) (pa_cons (pe_lst (pa_cons pe_int (pa_cons (pe_un un_neg pe_int) (pa_cons pe_int (pa_cons pe_int (pa_cons (pe_un un_neg pe_int) (pa_cons (pe_op op_sub pe_int pe_int) (pa_cons (pe_call C_law_take.G (hr.mono (by decide)) rfl C_law_take.m C_law_take.kp C_law_take.b .nil passL (pa_cons (pv 0) (pa_cons (pe_op op_pow pe_int pe_int) pa_nil))) (pa_cons pe_int (pa_cons pe_int pa_nil)))))))))) pa_nil))))
    (pss_cons (ps_if (pt_cmpR op_eq (pe_call C_law_take.G (hr.mono (by decide)) rfl C_law_take.m C_law_take.kp C_law_take.b .nil passL (pa_cons (pv 0) (pa_cons pe_int pa_nil))) pe_int (nomark _))
      (pss_one (ps_set (i := 1) sc_law_side.nd rfl (Or.inl rfl) (pe_call C_law_one.G (hr.mono (by decide)) rfl C_law_one.m C_law_one.kp C_law_one.b .nil passL (pa_cons (pv 0) (pa_cons (pe_lst (pa_cons (pe_op op_add pe_int pe_int) (pa_cons (pe_op op_sub (pe_un un_neg pe_int) pe_int) (pa_cons (pe_op op_pow pe_int pe_int) (pa_cons (pe_op op_sub pe_int (pe_op op_pow pe_int pe_int)) pa_nil))))) pa_nil)))))
      pss_nil)
    (pss_cons (ps_set (i := 2) sc_law_side.nd rfl (Or.inl rfl) (pe_op op_add pe_int (pe_call C_law_one.G (hr.mono (by decide)) rfl C_law_one.m C_law_one.kp C_law_one.b .nil passL (pa_cons (pv 0) (pa_cons (pe_lst (pa_cons (pe_call C_law_take.G (hr.mono (by decide)) rfl C_law_take.m C_law_take.kp C_law_take.b .nil passL (pa_cons (pv 0) (pa_cons pe_int pa_nil))) (pa_cons (pe_call C_law_take.G (hr.mono (by decide)) rfl C_law_take.m C_law_take.kp C_law_take.b .nil passL (pa_cons (pv 0) (pa_cons pe_int pa_nil))) (pa_cons pe_int pa_nil)))) pa_nil)))))
    (pss_cons (ps_if (pt_cmpR op_eq (pe_call C_law_take.G (hr.mono (by decide)) rfl C_law_take.m C_law_take.kp C_law_take.b .nil passL (pa_cons (pv 0) (pa_cons pe_int pa_nil))) pe_int (nomark _))
      (pss_one (ps_set (i := 2) sc_law_side.nd rfl (Or.inl rfl) (pe_call C_law_one.G (hr.mono (by decide)) rfl C_law_one.m C_law_one.kp C_law_one.b .nil passL (pa_cons (pv 0) (pa_cons (pe_lst (pa_cons pe_int (pa_cons pe_int (pa_cons (pe_op op_pow pe_int pe_int) pa_nil)))) pa_nil)))))
      pss_nil)
    (pss_one (ps_ret (pe_lst (pa_cons (pv 1) (pa_cons (pe_op op_add (pv 1) (pv 2)) pa_nil))))))))), ?_⟩
  obtain ⟨F0, p, rfl, hs, q⟩ := h
  walk_at "r"
  refine ⟨rfl, F0, p, _, rfl, hs, by decide, by decide, fun k H1 sH1 tH1 k0 k1 => ?_⟩
  walk_at "r"
  refine ⟨sz (by simp), fun q1 hq1 => ?_⟩
  obtain ⟨xsq1, exsq1⟩ : ∃ xs : List Int, xs = [0, -3, 5, 1073741824, -1073741824, (1073741824 - 32), k, 1, 0] := ⟨_, rfl⟩
  have evq1 : [V.int 0, V.int (-3), V.int 5, V.int 1073741824, V.int (-1073741824), V.int (1073741824 - 32), V.int k, V.int 1, V.int 0] = xsq1.map V.int := by rw [exsq1]; rfl
  have lxq1 : xsq1.length = 9 := by rw [exsq1]; rfl
  rw [evq1]
  have sq1 := sH1.new (o := .lst (xsq1.map V.int)) hq1
  have tq1 := tH1.trans (Stp.new (S := S1 p) (o := .lst (xsq1.map V.int)) sH1.1 hq1)
  have eq1 : upd F0 q1 (.lst (xsq1.map V.int)) q1 = some (.lst (xsq1.map V.int)) := upd_same
  generalize upd F0 q1 (.lst (xsq1.map V.int)) = Fq1 at sq1 tq1 eq1
  generalize upd H1 q1 _ = Hq1 at sq1 tq1 ⊢
  walk_at "r"
  refine ⟨rfl, Fq1, p, q1, _, rfl, sq1, .of eq1, by simp [lxq1], by simp [lxq1], fun x H2 sH2 tH2 hx => ?_⟩
  obtain ⟨bx, _, rfl⟩ := List.mem_map.mp hx
  replace tH2 := tq1.trans tH2
  walk_at "r"
  refine ⟨rfl, Fq1, p, 16, rfl, sH2, by omega, by omega, fun r0 H3 sH3 tH3 r00 r01 => ?_⟩
  replace tH3 := tH2.trans tH3
  walk_at "r"
  refine ifd (fun _ => ?_) (fun _ => ?_)
  · walk_at "r"
    refine ⟨sz (by simp), fun q2 hq2 => ?_⟩
    obtain ⟨xsq2, exsq2⟩ : ∃ xs : List Int, xs = [(1073741824 + 1), (-1073741824 - 1), (10 ^ Int.toNat 20), (0 - 10 ^ Int.toNat 20)] := ⟨_, rfl⟩
    have evq2 : [V.int (1073741824 + 1), V.int (-1073741824 - 1), V.int (10 ^ Int.toNat 20), V.int (0 - 10 ^ Int.toNat 20)] = xsq2.map V.int := by rw [exsq2]; rfl
    have lxq2 : xsq2.length = 4 := by rw [exsq2]; rfl
    rw [evq2]
    have sq2 := sH3.new (o := .lst (xsq2.map V.int)) hq2
    have tq2 := tH3.trans (Stp.new (S := S1 p) (o := .lst (xsq2.map V.int)) sH3.1 hq2)
    have eq2 : upd Fq1 q2 (.lst (xsq2.map V.int)) q2 = some (.lst (xsq2.map V.int)) := upd_same
    generalize upd Fq1 q2 (.lst (xsq2.map V.int)) = Fq2 at sq2 tq2 eq2
    generalize upd H3 q2 _ = Hq2 at sq2 tq2 ⊢
    walk_at "r"
    refine ⟨rfl, Fq2, p, q2, _, rfl, sq2, .of eq2, by simp [lxq2], by simp [lxq2], fun w1 H4 sH4 tH4 hw1 => ?_⟩
    obtain ⟨bw1, _, rfl⟩ := List.mem_map.mp hw1
    replace tH4 := tq2.trans tH4
    walk_at "r"
    refine ⟨rfl, Fq2, p, 4, rfl, sH4, by omega, by omega, fun r1 Ha sHa tHa r10 r11 => ?_⟩
    replace tHa := tH4.trans tHa
    walk_at "r"
    refine ⟨rfl, Fq2, p, 32, rfl, sHa, by omega, by omega, fun r2 Hb sHb tHb r20 r21 => ?_⟩
    replace tHb := tHa.trans tHb
    walk_at "r"
    refine ⟨sz (by simp), fun q3 hq3 => ?_⟩
    obtain ⟨xsq3, exsq3⟩ : ∃ xs : List Int, xs = [r1, r2, 31] := ⟨_, rfl⟩
    have evq3 : [V.int r1, V.int r2, V.int 31] = xsq3.map V.int := by rw [exsq3]; rfl
    have lxq3 : xsq3.length = 3 := by rw [exsq3]; rfl
    rw [evq3]
    have sq3 := sHb.new (o := .lst (xsq3.map V.int)) hq3
    have tq3 := tHb.trans (Stp.new (S := S1 p) (o := .lst (xsq3.map V.int)) sHb.1 hq3)
    have eq3 : upd Fq2 q3 (.lst (xsq3.map V.int)) q3 = some (.lst (xsq3.map V.int)) := upd_same
    generalize upd Fq2 q3 (.lst (xsq3.map V.int)) = Fq3 at sq3 tq3 eq3
    generalize upd Hb q3 _ = Hq3 at sq3 tq3 ⊢
    walk_at "r"
    refine ⟨rfl, Fq3, p, q3, _, rfl, sq3, .of eq3, by simp [lxq3], by simp [lxq3], fun y1 Hc sHc tHc hy1 => ?_⟩
    obtain ⟨by1, _, rfl⟩ := List.mem_map.mp hy1
    replace tHc := tq3.trans tHc
    walk_at "r"
    refine ⟨rfl, Fq3, p, 16, rfl, sHc, by omega, by omega, fun r3 Hd sHd tHd r30 r31 => ?_⟩
    replace tHd := tHc.trans tHd
    walk_at "r"
    refine ifd (fun _ => ?_) (fun _ => ?_)
    · walk_at "r"
      refine ⟨sz (by simp), fun q4 hq4 => ?_⟩
      obtain ⟨xsq4, exsq4⟩ : ∃ xs : List Int, xs = [0, 33, (10 ^ Int.toNat 9)] := ⟨_, rfl⟩
      have evq4 : [V.int 0, V.int 33, V.int (10 ^ Int.toNat 9)] = xsq4.map V.int := by rw [exsq4]; rfl
      have lxq4 : xsq4.length = 3 := by rw [exsq4]; rfl
      rw [evq4]
      have sq4 := sHd.new (o := .lst (xsq4.map V.int)) hq4
      have tq4 := tHd.trans (Stp.new (S := S1 p) (o := .lst (xsq4.map V.int)) sHd.1 hq4)
      have eq4 : upd Fq3 q4 (.lst (xsq4.map V.int)) q4 = some (.lst (xsq4.map V.int)) := upd_same
      generalize upd Fq3 q4 (.lst (xsq4.map V.int)) = Fq4 at sq4 tq4 eq4
      generalize upd Hd q4 _ = Hq4 at sq4 tq4 ⊢
      walk_at "r"
      refine ⟨rfl, Fq4, p, q4, _, rfl, sq4, .of eq4, by simp [lxq4], by simp [lxq4], fun z He sHe tHe hz => ?_⟩
      obtain ⟨bz, _, rfl⟩ := List.mem_map.mp hz
      replace tHe := tq4.trans tHe
      walk_at "r"
      refine ⟨sz (by simp), fun q9 hq9 => ?_⟩
      exact q q9 _ _ _ _ (sHe.new hq9) (tHe.trans (Stp.new sHe.1 hq9)) upd_same
    · walk_at "r"
      refine ⟨sz (by simp), fun q9 hq9 => ?_⟩
      exact q q9 _ _ _ _ (sHd.new hq9) (tHd.trans (Stp.new sHd.1 hq9)) upd_same
  · walk_at "r"
    refine ⟨rfl, Fq1, p, 4, rfl, sH3, by omega, by omega, fun r1 Ha sHa tHa r10 r11 => ?_⟩
    replace tHa := tH3.trans tHa
    walk_at "r"
    refine ⟨rfl, Fq1, p, 32, rfl, sHa, by omega, by omega, fun r2 Hb sHb tHb r20 r21 => ?_⟩
    replace tHb := tHa.trans tHb
    walk_at "r"
    refine ⟨sz (by simp), fun q3 hq3 => ?_⟩
    obtain ⟨xsq3, exsq3⟩ : ∃ xs : List Int, xs = [r1, r2, 31] := ⟨_, rfl⟩
    have evq3 : [V.int r1, V.int r2, V.int 31] = xsq3.map V.int := by rw [exsq3]; rfl
    have lxq3 : xsq3.length = 3 := by rw [exsq3]; rfl
    rw [evq3]
    have sq3 := sHb.new (o := .lst (xsq3.map V.int)) hq3
    have tq3 := tHb.trans (Stp.new (S := S1 p) (o := .lst (xsq3.map V.int)) sHb.1 hq3)
    have eq3 : upd Fq1 q3 (.lst (xsq3.map V.int)) q3 = some (.lst (xsq3.map V.int)) := upd_same
    generalize upd Fq1 q3 (.lst (xsq3.map V.int)) = Fq3 at sq3 tq3 eq3
    generalize upd Hb q3 _ = Hq3 at sq3 tq3 ⊢
    walk_at "r"
    refine ⟨rfl, Fq3, p, q3, _, rfl, sq3, .of eq3, by simp [lxq3], by simp [lxq3], fun y1 Hc sHc tHc hy1 => ?_⟩
    obtain ⟨by1, _, rfl⟩ := List.mem_map.mp hy1
    replace tHc := tq3.trans tHc
    walk_at "r"
    refine ⟨rfl, Fq3, p, 16, rfl, sHc, by omega, by omega, fun r3 Hd sHd tHd r30 r31 => ?_⟩
    replace tHd := tHc.trans tHd
    walk_at "r"
    refine ifd (fun _ => ?_) (fun _ => ?_)
    · walk_at "r"
      refine ⟨sz (by simp), fun q4 hq4 => ?_⟩
      obtain ⟨xsq4, exsq4⟩ : ∃ xs : List Int, xs = [0, 33, (10 ^ Int.toNat 9)] := ⟨_, rfl⟩
      have evq4 : [V.int 0, V.int 33, V.int (10 ^ Int.toNat 9)] = xsq4.map V.int := by rw [exsq4]; rfl
      have lxq4 : xsq4.length = 3 := by rw [exsq4]; rfl
      rw [evq4]
      have sq4 := sHd.new (o := .lst (xsq4.map V.int)) hq4
      have tq4 := tHd.trans (Stp.new (S := S1 p) (o := .lst (xsq4.map V.int)) sHd.1 hq4)
      have eq4 : upd Fq3 q4 (.lst (xsq4.map V.int)) q4 = some (.lst (xsq4.map V.int)) := upd_same
      generalize upd Fq3 q4 (.lst (xsq4.map V.int)) = Fq4 at sq4 tq4 eq4
      generalize upd Hd q4 _ = Hq4 at sq4 tq4 ⊢
      walk_at "r"
      refine ⟨rfl, Fq4, p, q4, _, rfl, sq4, .of eq4, by simp [lxq4], by simp [lxq4], fun z He sHe tHe hz => ?_⟩
      obtain ⟨bz, _, rfl⟩ := List.mem_map.mp hz
      replace tHe := tq4.trans tHe
      walk_at "r"
      refine ⟨sz (by simp), fun q9 hq9 => ?_⟩
      exact q q9 _ _ _ _ (sHe.new hq9) (tHe.trans (Stp.new sHe.1 hq9)) upd_same
    · walk_at "r"
      refine ⟨sz (by simp), fun q9 hq9 => ?_⟩
      exact q q9 _ _ _ _ (sHd.new hq9) (tHd.trans (Stp.new sHd.1 hq9)) upd_same
abbrev s_law_things : Stmt := topS 23
theorem sc_law_things : FnScope ["_law_source", "_law_across", "_law_down", "_law_mode", "_law_tx", "_law_ty", "_law_word", "_law_planes", "_law_layers_here", "_law_order", "_law_things_here", "_law_turn", "_law_at"] ["_law_source"] (defScope s_law_things) := ⟨rfl, rfl, rfl, by decide +kernel, rfl, by decide +kernel, by decide +kernel⟩
def Ok_law_things (P : Program) (w : World) (K : PySem.W.Frag) (mg : Str → Option Value) (base : Heap) : Prop := ∃ fA fd, Fn P w K mg base (L2.CX P w) 4 "_law_things" s_law_things fA fd ["_law_source"] (sp_law_things K mg)
theorem okx_law_things (Z : Zs K mg) {fA : Addr} {fd : FuncData} (F : Fun K "_law_things" "_law_things" s_law_things fA fd) (m : mg "_law_things" = some (.ref fA)) (C_law_one : Ok_law_one P w K mg base) (C_law_take : Ok_law_take P w K mg base) (C_law_layers : Ok_law_layers P w K mg base) (C_law_side : Ok_law_side P w K mg base) : Fn P w K mg base (L2.CX P w) 4 "_law_things" s_law_things fA fd ["_law_source"] (sp_law_things K mg) := by
  obtain ⟨_, _, C_law_one⟩ := C_law_one
  obtain ⟨_, _, C_law_take⟩ := C_law_take
  obtain ⟨_, _, C_law_layers⟩ := C_law_layers
  obtain ⟨_, _, C_law_side⟩ := C_law_side
  refine ⟨F.okX sc_law_things (fun vs H Q E h => h.1) (fun cdv A outer s H vs Q E hr h => ?_), m, F.kp, F.binds fun _ _ _ _ _ _ us hl => match us, hl with | [_], _ => rfl, F⟩
  have hu64 := hr.units
  obtain ⟨hlen, h⟩ := h
  refine ⟨_, (pss_cons (ps_par (i := 1) (j := 2) (by rfl) sc_law_things.nd rfl rfl (by decide) rfl rfl (pa_cons (pe_call C_law_side.G (hr.mono (by decide)) rfl C_law_side.m C_law_side.kp C_law_side.b .nil passL (pa_cons (pv 0) pa_nil)) (pa_cons (pe_call C_law_side.G (hr.mono (by decide)) rfl C_law_side.m C_law_side.kp C_law_side.b .nil passL (pa_cons (pv 0) pa_nil)) pa_nil)) (by rfl))
    (pss_cons (ps_par3 (i := 3) (j := 4) (l := 5) (by rfl) sc_law_things.nd rfl rfl rfl (by decide) (by decide) (by decide) rfl rfl rfl (pa_cons (pe_call C_law_take.G (hr.mono (by decide)) rfl C_law_take.m C_law_take.kp C_law_take.b .nil passL (pa_cons (pv 0) (pa_cons pe_int pa_nil))) (pa_cons (pe_call C_law_take.G (hr.mono (by decide)) rfl C_law_take.m C_law_take.kp C_law_take.b .nil passL (pa_cons (pv 0) (pa_cons pe_int pa_nil))) (pa_cons (pe_call C_law_take.G (hr.mono (by decide)) rfl C_law_take.m C_law_take.kp C_law_take.b .nil passL (pa_cons (pv 0) (pa_cons pe_int pa_nil))) pa_nil))) (by rfl))
    (pss_cons (ps_set (i := 6) sc_law_things.nd rfl (Or.inl rfl) (pe_op op_add_str (pe_op op_smul pe_str (pe_call C_law_take.G (hr.mono (by decide)) rfl C_law_take.m C_law_take.kp C_law_take.b .nil passL (pa_cons (pv 0) (pa_cons (pe_op op_add (pv 4) pe_int) pa_nil)))) (pe_op op_smul pe_str (pe_call C_law_take.G (hr.mono (by decide)) rfl C_law_take.m C_law_take.kp C_law_take.b .nil passL (pa_cons (pv 0) (pa_cons (pe_op op_add (pv 5) pe_int) pa_nil))))))
    (pss_cons (ps_set (i := 6) sc_law_things.nd rfl (Or.inl rfl) (pe_call C_law_one.G (hr.mono (by decide)) rfl C_law_one.m C_law_one.kp C_law_one.b .nil passL (pa_cons (pv 0) (pa_cons (pe_lst (pa_cons (pv 6) (pa_cons (pv 6) (pa_cons (pe_slRev (pv 6) (pe_un un_neg pe_int)) (pa_cons (pe_ifExp (PW.pt (pw_and (pt_cmpR op_gt (pv 4) pe_int (nomark _)) (pw_and1 (pt_cmpR op_gt (pv 5) pe_int (nomark _))))) pe_str (pv 6)) pa_nil))))) pa_nil))))
    (pss_cons (ps_set (i := 7) sc_law_things.nd rfl (Or.inl rfl) (pe_call C_law_one.G (hr.mono (by decide)) rfl C_law_one.m C_law_one.kp C_law_one.b .nil passL (pa_cons (pv 0) (pa_cons (pe_lst (pa_cons pe_int (pa_cons pe_int (pa_cons pe_int (pa_cons pe_int (pa_cons pe_int (pa_cons pe_int pa_nil))))))) pa_nil))))
    (pss_cons (ps_set (i := 8) sc_law_things.nd rfl (Or.inl rfl) (pe_call C_law_layers.G (hr.mono (by decide)) rfl C_law_layers.m C_law_layers.kp C_law_layers.b .nil passL (pa_cons (pv 0) (pa_cons (pv 7) pa_nil))))
    (pss_cons (ps_set (i := 9) sc_law_things.nd rfl (Or.inl rfl) (pe_call C_law_one.G (hr.mono (by decide)) rfl C_law_one.m C_law_one.kp C_law_one.b .nil passL (pa_cons (pv 0) (pa_cons (pe_lst (pa_cons pe_str (pa_cons pe_str (pa_cons pe_str (pa_cons pe_str (pa_cons pe_str pa_nil)))))) pa_nil))))
    (pss_cons (ps_set (i := 10) sc_law_things.nd rfl (Or.inl rfl) (pe_lst (pa_cons (pe_tup (pa_cons (pe_ix (i_list K rfl) (pv 1) pe_int (fun _ _ => rfl)) (pa_cons (pe_ix (i_list K rfl) (pv 1) pe_int (fun _ _ => rfl)) (pa_cons (pe_ix (i_list K rfl) (pv 2) pe_int (fun _ _ => rfl)) (pa_cons (pe_ix (i_list K rfl) (pv 2) pe_int (fun _ _ => rfl)) pa_nil))))) (pa_cons (pv 3) (pa_cons (pv 4) (pa_cons (pv 5) (pa_cons (pv 6) (pa_cons (pv 7) (pa_cons (pv 8) (pa_cons (pv 9) pa_nil))))))))))
    (pss_cons (ps_for (passes_of rfl) rfl (pi_range1 rfl Z.z_range (pa_cons (pe_call C_law_one.G (hr.mono (by decide)) rfl C_law_one.m C_law_one.kp C_law_one.b .nil passL (pa_cons (pv 0) (pa_cons (pe_lst (pa_cons pe_int (pa_cons pe_int (pa_cons pe_int (pa_cons pe_int (pa_cons pe_int pa_nil)))))) pa_nil))) pa_nil)) (pg_name (i := 11) sc_law_things.nd rfl (Or.inl rfl))
      (pss_cons (ps_set (i := 12) sc_law_things.nd rfl (Or.inl rfl) (pe_op op_add pe_int (pe_call C_law_take.G (hr.mono (by decide)) rfl C_law_take.m C_law_take.kp C_law_take.b .nil passL (pa_cons (pv 0) (pa_cons pe_int pa_nil)))))
    (pss_one (ps_asg (pe_call C_law_one.G (hr.mono (by decide)) rfl C_law_one.m C_law_one.kp C_law_one.b .nil passL (pa_cons (pv 0) (pa_cons (pe_ix (i_list K rfl) (pe_lst (pa_cons (pe_lst (pa_cons (pe_un un_neg pe_int) (pa_cons pe_int (pa_cons (pe_op op_pow pe_int pe_int) pa_nil)))) (pa_cons (pe_lst (pa_cons (pe_un un_neg pe_int) (pa_cons pe_int (pa_cons pe_int pa_nil)))) (pa_cons (pe_lst (pa_cons pe_int (pa_cons (pe_un un_neg pe_int) (pa_cons pe_int pa_nil)))) (pa_cons (pe_lst (pa_cons pe_str (pa_cons (pe_op op_add_str (pv 6) pe_str) (pa_cons (pe_op op_smul pe_str (pe_op op_add (pv 4) pe_int)) (pa_cons (pe_op op_add_str (pe_op op_smul pe_str (pe_op op_add (pv 5) pe_int)) (pv 6)) (pa_cons pe_str pa_nil)))))) (pa_cons (pe_lst (pa_cons pe_int (pa_cons pe_int (pa_cons (pe_un un_neg pe_int) pa_nil)))) (pa_cons (pe_lst (pa_cons (pe_lst pa_nil) (pa_cons (pe_op op_cat (pv 8) (pe_lst (pa_cons pe_int pa_nil))) (pa_cons (pe_op op_cat (pe_lst (pa_cons pe_int pa_nil)) (pv 8)) (pa_cons (pe_op op_cat (pe_slice (l_list K rfl) (pv 8) po_none (po_some (pe_un un_neg pe_int))) (pe_lst (pa_cons (pe_op op_sub (pe_ix (i_list K rfl) (pv 8) (pe_un un_neg pe_int) (fun _ _ => rfl)) pe_int) pa_nil))) (pa_cons (pe_op op_rep (pe_lst (pa_cons pe_int pa_nil)) pe_int) (pa_cons (pe_lst (pa_cons (pe_op op_add (pe_op op_mul pe_int (pv 7)) pe_int) (pa_cons (pe_un un_neg pe_int) pa_nil))) pa_nil))))))) (pa_cons (pe_lst (pa_cons pe_str (pa_cons pe_str (pa_cons pe_str (pa_cons pe_str (pa_cons pe_str (pa_cons pe_str (pa_cons pe_str pa_nil)))))))) pa_nil)))))))) (pe_op op_sub (pv 12) pe_int) (fun _ _ => rfl)) pa_nil))) (pg_sub (pv 10) (pv 12) set_list)))))
    (pss_one (ps_ret (pv 10)))))))))))), ?_⟩
  obtain ⟨F0, p, rfl, hs, q⟩ := h
  walk_at "r"
  refine ⟨rfl, F0, p, rfl, hs, fun qa ba ea F1 H1 s1 t1 eA => ?_⟩
  walk_at "r"
  refine ⟨rfl, F1, p, rfl, s1, fun qd bd ed F2 H2 s2 t2 eD => ?_⟩
  replace eA := t2.ff _ _ eA
  replace t2 := t1.trans t2
  clear t1
  walk_at "r"
  refine ⟨rfl, F2, p, _, rfl, s2, by omega, by omega, fun md H3 s3 t3 md0 md1 => ?_⟩
  replace t3 := t2.trans t3
  walk_at "r"
  refine ⟨rfl, F2, p, _, rfl, s3, by omega, by omega, fun tx H4 s4 t4 tx0 tx1 => ?_⟩
  replace t4 := t3.trans t4
  walk_at "r"
  refine ⟨rfl, F2, p, _, rfl, s4, by omega, by omega, fun ty H5 s5 t5 ty0 ty1 => ?_⟩
  replace t5 := t4.trans t5
  clear t2 t3 t4
  walk_at "r"
  refine ⟨rfl, F2, p, _, rfl, s5, by omega, by omega, fun w1 H6 s6 t6 w10 w11 => ?_⟩
  replace t6 := t5.trans t6
  have mx := xword (Str.ofString "X") (by decide +kernel) (by unfold SgT; decide +kernel) w10 (by omega : w1 ≤ 64)
  refine ⟨_, _, rfl, rfl, mx.1, ?_⟩
  walk_at "r"
  refine ⟨rfl, F2, p, _, rfl, s6, by omega, by omega, fun w2 H7 s7 t7 w20 w21 => ?_⟩
  replace t7 := t6.trans t7
  have my := xword (Str.ofString "Y") (by decide +kernel) (by unfold SgT; decide +kernel) w20 (by omega : w2 ≤ 64)
  refine ⟨_, _, rfl, rfl, my.1, ?_⟩
  refine ⟨_, _, rfl, rfl, Nat.le_trans (m := 100000) ?_ (by decide), ?_⟩
  · have := mx.2.1; have := my.2.1; omega
  obtain ⟨wd, hwd⟩ : ∃ wd, wd = Txt.mul (Str.ofString "X") w1 ++ Txt.mul (Str.ofString "Y") w2 := ⟨_, rfl⟩
  have lw : wd.length ≤ 10 := by have := mx.2.1; have := my.2.1; rw [hwd, len_app]; omega
  have gw : SgT wd := by rw [hwd]; exact sg_app mx.2.2 my.2.2
  rw [← hwd]
  clear mx my hwd t5 t6
  walk_at "r"
  refine ⟨_, rfl, ?_⟩
  walk_at "r"
  refine ⟨wd, rfl, rfl, by omega, fun rv lrv crv => ?_⟩
  have grv : SgT rv := fun c hc => gw c (crv c hc)
  refine s_cons ?_
  refine merge_str (fun y => SgT y ∧ y.length ≤ 10) (fun y4 hy4 => ?_) (fun R => ?_)
  rotate_left
  · walk_at "r"
    refine ifd (fun _ => ?_) (fun _ => ?_)
    · walk_at "r"
      refine ifd (fun _ => ?_) (fun _ => ?_)
      · exact R (Str.ofString "YX") ⟨by unfold SgT; decide +kernel, by decide +kernel⟩
      · exact ⟨_, rfl, R wd ⟨gw, lw⟩⟩
    · exact ⟨_, rfl, R wd ⟨gw, lw⟩⟩
  walk_at "r"
  refine ⟨sz (by simp), fun q1 hq1 => ?_⟩
  have s8 := s7.new (o := .lst [.str wd, .str wd, .str rv, .str y4]) hq1
  have t8 := t7.trans (Stp.new (S := S1 p) (o := .lst [.str wd, .str wd, .str rv, .str y4]) s7.1 hq1)
  have f3 := (Stp.new (S := S1 p) (o := .lst [.str wd, .str wd, .str rv, .str y4]) s7.1 hq1).ff
  have e_q1 : upd F2 q1 (.lst [.str wd, .str wd, .str rv, .str y4]) q1 = some (.lst [.str wd, .str wd, .str rv, .str y4]) := upd_same
  generalize upd F2 q1 (.lst [.str wd, .str wd, .str rv, .str y4]) = F3 at s8 t8 f3 e_q1
  generalize upd H7 q1 _ = H8 at s8 t8 ⊢
  replace eA := f3 _ _ eA
  replace eD := f3 _ _ eD
  clear s7 t7 f3
  walk_at "r"
  refine ⟨rfl, F3, p, q1, _, rfl, s8, .of e_q1, by simp, by simp, fun x1 H9 s9 t9 hx1 => ?_⟩
  replace t9 := t8.trans t9
  clear s8 t8
  obtain ⟨W, rfl, gW, lW⟩ : OkW 10 x1 := by
    simp only [List.mem_cons, List.not_mem_nil, or_false] at hx1
    rcases hx1 with rfl | rfl | rfl | rfl
    · exact ⟨_, rfl, gw, lw⟩
    · exact ⟨_, rfl, gw, lw⟩
    · exact ⟨_, rfl, grv, by omega⟩
    · exact ⟨_, rfl, hy4.1, hy4.2⟩
  clear hx1 e_q1 gw lw grv lrv crv hy4
  walk_at "r"
  refine ⟨sz (by simp), fun q2 hq2 => ?_⟩
  have s10 := s9.new (o := .lst [.int 1, .int 2, .int 3, .int 8, .int 19, .int 20]) hq2
  have t10 := t9.trans (Stp.new (S := S1 p) (o := .lst [.int 1, .int 2, .int 3, .int 8, .int 19, .int 20]) s9.1 hq2)
  have f4 := (Stp.new (S := S1 p) (o := .lst [.int 1, .int 2, .int 3, .int 8, .int 19, .int 20]) s9.1 hq2).ff
  have e_q2 : upd F3 q2 (.lst [.int 1, .int 2, .int 3, .int 8, .int 19, .int 20]) q2 = some (.lst [.int 1, .int 2, .int 3, .int 8, .int 19, .int 20]) := upd_same
  generalize upd F3 q2 (.lst [.int 1, .int 2, .int 3, .int 8, .int 19, .int 20]) = F4 at s10 t10 f4 e_q2
  generalize upd H9 q2 _ = H10 at s10 t10 ⊢
  replace eA := f4 _ _ eA
  replace eD := f4 _ _ eD
  clear s9 t9 f4
  walk_at "r"
  refine ⟨rfl, F4, p, q2, _, rfl, s10, .of e_q2, by simp, by simp, fun x2 H11 s11 t11 hx2 => ?_⟩
  replace t11 := t10.trans t11
  clear s10 t10
  obtain ⟨pl, rfl, pl0, pl1⟩ : ∃ b : Int, x2 = .int b ∧ 1 ≤ b ∧ b ≤ 20 := by
    simp only [List.mem_cons, List.not_mem_nil, or_false] at hx2
    rcases hx2 with rfl | rfl | rfl | rfl | rfl | rfl <;> exact ⟨_, rfl, by decide, by decide⟩
  clear hx2 e_q2
  walk_at "r"
  refine ⟨rfl, F4, p, pl, rfl, s11, pl0, pl1, fun ll ls F5 H12 s12 t12 eL l0 l1 => ?_⟩
  have f5 := t12.ff
  replace t12 := t11.trans t12
  replace eA := f5 _ _ eA
  replace eD := f5 _ _ eD
  clear s11 t11 f5
  walk_at "r"
  refine ⟨sz (by simp), fun q3 hq3 => ?_⟩
  have s13 := s12.new (o := .lst [.str (Str.ofString "BCLT"), .str (Str.ofString "LBTC"), .str (Str.ofString "TLCB"), .str (Str.ofString "TCBL"), .str (Str.ofString "CLTB")]) hq3
  have t13 := t12.trans (Stp.new (S := S1 p) (o := .lst [.str (Str.ofString "BCLT"), .str (Str.ofString "LBTC"), .str (Str.ofString "TLCB"), .str (Str.ofString "TCBL"), .str (Str.ofString "CLTB")]) s12.1 hq3)
  have f6 := (Stp.new (S := S1 p) (o := .lst [.str (Str.ofString "BCLT"), .str (Str.ofString "LBTC"), .str (Str.ofString "TLCB"), .str (Str.ofString "TCBL"), .str (Str.ofString "CLTB")]) s12.1 hq3).ff
  have e_q3 : upd F5 q3 (.lst [.str (Str.ofString "BCLT"), .str (Str.ofString "LBTC"), .str (Str.ofString "TLCB"), .str (Str.ofString "TCBL"), .str (Str.ofString "CLTB")]) q3 = some (.lst [.str (Str.ofString "BCLT"), .str (Str.ofString "LBTC"), .str (Str.ofString "TLCB"), .str (Str.ofString "TCBL"), .str (Str.ofString "CLTB")]) := upd_same
  generalize upd F5 q3 (.lst [.str (Str.ofString "BCLT"), .str (Str.ofString "LBTC"), .str (Str.ofString "TLCB"), .str (Str.ofString "TCBL"), .str (Str.ofString "CLTB")]) = F6 at s13 t13 f6 e_q3
  generalize upd H12 q3 _ = H13 at s13 t13 ⊢
  replace eA := f6 _ _ eA
  replace eD := f6 _ _ eD
  replace eL := f6 _ _ eL
  clear s12 t12 f6
  walk_at "r"
  refine ⟨rfl, F6, p, q3, _, rfl, s13, .of e_q3, by simp, by simp, fun x3 H14 s14 t14 hx3 => ?_⟩
  replace t14 := t13.trans t14
  clear s13 t13
  obtain ⟨od, rfl, god, lod⟩ : OkW 10 x3 := by
    simp only [List.mem_cons, List.not_mem_nil, or_false] at hx3
    rcases hx3 with rfl | rfl | rfl | rfl | rfl <;> exact ⟨_, rfl, by unfold SgT; decide +kernel, by decide +kernel⟩
  clear hx3 e_q3
  walk_at "r"
  refine s_ixL (.of (s14.1 _ _ eA)) rfl ?_
  walk_at "r"
  refine s_ixL (.of (s14.1 _ _ eA)) rfl ?_
  walk_at "r"
  refine s_ixL (.of (s14.1 _ _ eD)) rfl ?_
  walk_at "r"
  refine s_ixL (.of (s14.1 _ _ eD)) rfl ?_
  walk_at "r"
  refine ⟨sz (by simp), fun qr hqr => ?_⟩
  have s15 := s14.new (o := .tup [.int ba, .int ea, .int bd, .int ed]) hqr
  have t15 := t14.trans (Stp.new (S := S1 p) (o := .tup [.int ba, .int ea, .int bd, .int ed]) s14.1 hqr)
  have f7 := (Stp.new (S := S1 p) (o := .tup [.int ba, .int ea, .int bd, .int ed]) s14.1 hqr).ff
  have e_qr : upd F6 qr (.tup [.int ba, .int ea, .int bd, .int ed]) qr = some (.tup [.int ba, .int ea, .int bd, .int ed]) := upd_same
  generalize upd F6 qr (.tup [.int ba, .int ea, .int bd, .int ed]) = F7 at s15 t15 f7 e_qr
  generalize upd H14 qr _ = H15 at s15 t15 ⊢
  replace eA := f7 _ _ eA
  replace eD := f7 _ _ eD
  replace eL := f7 _ _ eL
  clear s14 t14 f7
  walk_at "r"
  refine ⟨sz (by simp), fun a ha => ?_⟩
  obtain ⟨T0, hT0⟩ : ∃ T0 : Th, T0 = { x0 := ba, x1 := ea, y0 := bd, y1 := ed, mode := md, tx := tx, ty := ty, word := W, planes := pl, layers := ls, order := od } := ⟨_, rfl⟩
  have z : ThW F0 H F7 (upd H15 a (.lst [.ref qr, .int md, .int tx, .int ty, .str W, .int pl, .ref ll, .str od])) p a qr ll T0 := by
    have fa := s15.1.free ha
    have np := (s15.ne ha).symm
    subst hT0
    refine ⟨s15.upd np fa, t15.trans (Stp.cell s15.1 ha), ?_, fa, np, upd_same, e_qr, eL, ⟨by show W.length < 64; omega, gW, by show ls.length < 64; omega, by show od.length < 64; omega, god⟩⟩
    cases e : H a with
    | none => rfl
    | some o' =>
      obtain ⟨o2, e2⟩ := t15.dom _ _ e
      rw [ha] at e2; cases e2
  generalize upd H15 a _ = H16 at z ⊢
  clear e_qr eA eD ha s15 t15 hT0
  walk_at "r"
  refine ⟨sz (by simp), fun q4 hq4 => ?_⟩
  have sn := z.s.new (o := .lst [.int 0, .int 0, .int 1, .int 1, .int 2]) hq4
  have tn := Stp.new (S := S1 p) (o := .lst [.int 0, .int 0, .int 1, .int 1, .int 2]) z.s.1 hq4
  have fn := tn.ff
  have e_q4 : upd F7 q4 (.lst [.int 0, .int 0, .int 1, .int 1, .int 2]) q4 = some (.lst [.int 0, .int 0, .int 1, .int 1, .int 2]) := upd_same
  replace z := z.stp sn tn
  clear sn tn
  generalize upd F7 q4 (.lst [.int 0, .int 0, .int 1, .int 1, .int 2]) = F8 at z fn e_q4
  generalize upd H16 q4 _ = H17 at z ⊢
  replace eL := fn _ _ eL
  clear fn
  walk_at "r"
  refine ⟨rfl, F8, p, q4, _, rfl, z.s, .of e_q4, by simp, by simp, fun x4 H18 s2 t2 hx4 => ?_⟩
  replace z := z.stp s2 t2
  clear s2 t2
  obtain ⟨n, rfl, n0, n1⟩ : ∃ b : Int, x4 = .int b ∧ 0 ≤ b ∧ b ≤ 2 := by
    simp only [List.mem_cons, List.not_mem_nil, or_false] at hx4
    rcases hx4 with rfl | rfl | rfl | rfl | rfl <;> exact ⟨_, rfl, by decide, by decide⟩
  clear hx4 e_q4
  walk_at "r"
  refine ⟨_, rfl, by omega, by omega, ?_⟩
  refine forR (fun i σ H' => ∃ F' T lx v11 v12, σ = [some (.ref p), some (.ref qa), some (.ref qd), some (.int md), some (.int tx), some (.int ty), some (.str W), some (.int pl), some (.ref ll), some (.str od), some (.ref a), v11, v12] ∧ ThW F0 H F' H' p a qr lx T ∧ F' ll = some (.lst (ls.map V.int))) ⟨_, _, _, _, _, rfl, z, eL⟩ ?_ ?_
  rotate_left
  · rintro σ H2 ⟨F', T, lx, v11, v12, rfl, z, eL⟩
    walk_at "r"
    exact q a qr lx T _ _ z.fin.1 z.fin.2.1 z.fin.2.2 z.b
  clear z eL
  rintro i σ H1 hi ⟨F1, T, lx, v11, v12, rfl, z, eL⟩
  walk_at "r"
  refine ⟨rfl, F1, p, 7, rfl, z.s, by omega, by omega, fun k H2 s2 t2 k0 k1 => ?_⟩
  replace z := z.stp s2 t2
  clear s2 t2
  walk_at "r"
  have mx := xword (Str.ofString "X") (by decide +kernel) (by unfold SgT; decide +kernel) (by omega : 0 ≤ tx + 1) (by omega : tx + 1 ≤ 64)
  have my := xword (Str.ofString "Y") (by decide +kernel) (by unfold SgT; decide +kernel) (by omega : 0 ≤ ty + 1) (by omega : ty + 1 ≤ 64)
  have lx : (Str.ofString "x").length = 1 := by decide +kernel
  obtain ⟨lastv, hlast⟩ := last_at l0
  refine ⟨sz (by simp), fun a1 ha1 => ?_⟩
  have sn := z.s.new (o := .lst [.int (-1), .int 3, .int (10 ^ Int.toNat 9)]) ha1
  have tn := Stp.new (S := S1 p) (o := .lst [.int (-1), .int 3, .int (10 ^ Int.toNat 9)]) z.s.1 ha1
  have fn := tn.ff
  have e_a1 : upd F1 a1 (.lst [.int (-1), .int 3, .int (10 ^ Int.toNat 9)]) a1 = some (.lst [.int (-1), .int 3, .int (10 ^ Int.toNat 9)]) := upd_same
  replace z := z.stp sn tn
  clear sn tn
  generalize upd F1 a1 (.lst [.int (-1), .int 3, .int (10 ^ Int.toNat 9)]) = F2 at z fn e_a1
  generalize upd H2 a1 _ = H3 at z ⊢
  replace eL := fn _ _ eL
  clear fn
  walk_at "r"
  refine ⟨sz (by simp), fun a2 ha2 => ?_⟩
  have sn := z.s.new (o := .lst [.int (-1), .int 6, .int 64]) ha2
  have tn := Stp.new (S := S1 p) (o := .lst [.int (-1), .int 6, .int 64]) z.s.1 ha2
  have fn := tn.ff
  have e_a2 : upd F2 a2 (.lst [.int (-1), .int 6, .int 64]) a2 = some (.lst [.int (-1), .int 6, .int 64]) := upd_same
  replace z := z.stp sn tn
  clear sn tn
  generalize upd F2 a2 (.lst [.int (-1), .int 6, .int 64]) = F3 at z fn e_a2
  generalize upd H3 a2 _ = H4 at z ⊢
  replace eL := fn _ _ eL
  replace e_a1 := fn _ _ e_a1
  clear fn
  walk_at "r"
  refine ⟨sz (by simp), fun a3 ha3 => ?_⟩
  have sn := z.s.new (o := .lst [.int 6, .int (-1), .int 32]) ha3
  have tn := Stp.new (S := S1 p) (o := .lst [.int 6, .int (-1), .int 32]) z.s.1 ha3
  have fn := tn.ff
  have e_a3 : upd F3 a3 (.lst [.int 6, .int (-1), .int 32]) a3 = some (.lst [.int 6, .int (-1), .int 32]) := upd_same
  replace z := z.stp sn tn
  clear sn tn
  generalize upd F3 a3 (.lst [.int 6, .int (-1), .int 32]) = F4 at z fn e_a3
  generalize upd H4 a3 _ = H5 at z ⊢
  replace eL := fn _ _ eL
  replace e_a1 := fn _ _ e_a1
  replace e_a2 := fn _ _ e_a2
  clear fn
  walk_at "r"
  refine ⟨_, _, rfl, rfl, Nat.le_trans (m := 100000) ?_ (by decide), ?_⟩
  · omega
  walk_at "r"
  refine ⟨_, _, rfl, rfl, mx.1, ?_⟩
  walk_at "r"
  refine ⟨_, _, rfl, rfl, my.1, ?_⟩
  walk_at "r"
  refine ⟨_, _, rfl, rfl, Nat.le_trans (m := 100000) ?_ (by decide), ?_⟩
  · have := my.2.1; omega
  walk_at "r"
  refine ⟨sz (by simp), fun a4 ha4 => ?_⟩
  have sn := z.s.new (o := .lst [.str (Str.ofString "Z"), .str (W ++ Str.ofString "x"), .str (Txt.mul (Str.ofString "X") (tx + 1)), .str (Txt.mul (Str.ofString "Y") (ty + 1) ++ W), .str (Str.ofString " ")]) ha4
  have tn := Stp.new (S := S1 p) (o := .lst [.str (Str.ofString "Z"), .str (W ++ Str.ofString "x"), .str (Txt.mul (Str.ofString "X") (tx + 1)), .str (Txt.mul (Str.ofString "Y") (ty + 1) ++ W), .str (Str.ofString " ")]) z.s.1 ha4
  have fn := tn.ff
  have e_a4 : upd F4 a4 (.lst [.str (Str.ofString "Z"), .str (W ++ Str.ofString "x"), .str (Txt.mul (Str.ofString "X") (tx + 1)), .str (Txt.mul (Str.ofString "Y") (ty + 1) ++ W), .str (Str.ofString " ")]) a4 = some (.lst [.str (Str.ofString "Z"), .str (W ++ Str.ofString "x"), .str (Txt.mul (Str.ofString "X") (tx + 1)), .str (Txt.mul (Str.ofString "Y") (ty + 1) ++ W), .str (Str.ofString " ")]) := upd_same
  replace z := z.stp sn tn
  clear sn tn
  generalize upd F4 a4 (.lst [.str (Str.ofString "Z"), .str (W ++ Str.ofString "x"), .str (Txt.mul (Str.ofString "X") (tx + 1)), .str (Txt.mul (Str.ofString "Y") (ty + 1) ++ W), .str (Str.ofString " ")]) = F5 at z fn e_a4
  generalize upd H5 a4 _ = H6 at z ⊢
  replace eL := fn _ _ eL
  replace e_a1 := fn _ _ e_a1
  replace e_a2 := fn _ _ e_a2
  replace e_a3 := fn _ _ e_a3
  clear fn
  walk_at "r"
  refine ⟨sz (by simp), fun a5 ha5 => ?_⟩
  have sn := z.s.new (o := .lst [.int 0, .int 21, .int (-1)]) ha5
  have tn := Stp.new (S := S1 p) (o := .lst [.int 0, .int 21, .int (-1)]) z.s.1 ha5
  have fn := tn.ff
  have e_a5 : upd F5 a5 (.lst [.int 0, .int 21, .int (-1)]) a5 = some (.lst [.int 0, .int 21, .int (-1)]) := upd_same
  replace z := z.stp sn tn
  clear sn tn
  generalize upd F5 a5 (.lst [.int 0, .int 21, .int (-1)]) = F6 at z fn e_a5
  generalize upd H6 a5 _ = H7 at z ⊢
  replace eL := fn _ _ eL
  replace e_a1 := fn _ _ e_a1
  replace e_a2 := fn _ _ e_a2
  replace e_a3 := fn _ _ e_a3
  replace e_a4 := fn _ _ e_a4
  clear fn
  walk_at "r"
  refine ⟨sz (by simp), fun b1 hb1 => ?_⟩
  have sn := z.s.new (o := .lst []) hb1
  have tn := Stp.new (S := S1 p) (o := .lst []) z.s.1 hb1
  have fn := tn.ff
  have e_b1 : upd F6 b1 (.lst []) b1 = some (.lst []) := upd_same
  replace z := z.stp sn tn
  clear sn tn
  generalize upd F6 b1 (.lst []) = F7 at z fn e_b1
  generalize upd H7 b1 _ = H8 at z ⊢
  replace eL := fn _ _ eL
  replace e_a1 := fn _ _ e_a1
  replace e_a2 := fn _ _ e_a2
  replace e_a3 := fn _ _ e_a3
  replace e_a4 := fn _ _ e_a4
  replace e_a5 := fn _ _ e_a5
  clear fn
  walk_at "r"
  refine ⟨sz (by simp), fun b2 hb2 => ?_⟩
  have sn := z.s.new (o := .lst [.int 1]) hb2
  have tn := Stp.new (S := S1 p) (o := .lst [.int 1]) z.s.1 hb2
  have fn := tn.ff
  have e_b2 : upd F7 b2 (.lst [.int 1]) b2 = some (.lst [.int 1]) := upd_same
  replace z := z.stp sn tn
  clear sn tn
  generalize upd F7 b2 (.lst [.int 1]) = F8 at z fn e_b2
  generalize upd H8 b2 _ = H9 at z ⊢
  replace eL := fn _ _ eL
  replace e_a1 := fn _ _ e_a1
  replace e_a2 := fn _ _ e_a2
  replace e_a3 := fn _ _ e_a3
  replace e_a4 := fn _ _ e_a4
  replace e_a5 := fn _ _ e_a5
  replace e_b1 := fn _ _ e_b1
  clear fn
  walk_at "r"
  refine ⟨ll, b2, _, _, rfl, rfl, z.s.1 _ _ eL, z.s.1 _ _ e_b2, sz (by simp; omega), fun b3 hb3 => ?_⟩
  have sn := z.s.new (o := .lst (ls.map V.int ++ [V.int 1])) hb3
  have tn := Stp.new (S := S1 p) (o := .lst (ls.map V.int ++ [V.int 1])) z.s.1 hb3
  have fn := tn.ff
  have e_b3 : upd F8 b3 (.lst (ls.map V.int ++ [V.int 1])) b3 = some (.lst (ls.map V.int ++ [V.int 1])) := upd_same
  replace z := z.stp sn tn
  clear sn tn
  generalize upd F8 b3 (.lst (ls.map V.int ++ [V.int 1])) = F9 at z fn e_b3
  generalize upd H9 b3 _ = H10 at z ⊢
  replace eL := fn _ _ eL
  replace e_a1 := fn _ _ e_a1
  replace e_a2 := fn _ _ e_a2
  replace e_a3 := fn _ _ e_a3
  replace e_a4 := fn _ _ e_a4
  replace e_a5 := fn _ _ e_a5
  replace e_b1 := fn _ _ e_b1
  replace e_b2 := fn _ _ e_b2
  clear fn
  walk_at "r"
  refine ⟨sz (by simp), fun b4 hb4 => ?_⟩
  have sn := z.s.new (o := .lst [.int 0]) hb4
  have tn := Stp.new (S := S1 p) (o := .lst [.int 0]) z.s.1 hb4
  have fn := tn.ff
  have e_b4 : upd F9 b4 (.lst [.int 0]) b4 = some (.lst [.int 0]) := upd_same
  replace z := z.stp sn tn
  clear sn tn
  generalize upd F9 b4 (.lst [.int 0]) = F10 at z fn e_b4
  generalize upd H10 b4 _ = H11 at z ⊢
  replace eL := fn _ _ eL
  replace e_a1 := fn _ _ e_a1
  replace e_a2 := fn _ _ e_a2
  replace e_a3 := fn _ _ e_a3
  replace e_a4 := fn _ _ e_a4
  replace e_a5 := fn _ _ e_a5
  replace e_b1 := fn _ _ e_b1
  replace e_b2 := fn _ _ e_b2
  replace e_b3 := fn _ _ e_b3
  clear fn
  walk_at "r"
  refine ⟨b4, ll, _, _, rfl, rfl, z.s.1 _ _ e_b4, z.s.1 _ _ eL, sz (by simp; omega), fun b5 hb5 => ?_⟩
  have sn := z.s.new (o := .lst ([V.int 0] ++ ls.map V.int)) hb5
  have tn := Stp.new (S := S1 p) (o := .lst ([V.int 0] ++ ls.map V.int)) z.s.1 hb5
  have fn := tn.ff
  have e_b5 : upd F10 b5 (.lst ([V.int 0] ++ ls.map V.int)) b5 = some (.lst ([V.int 0] ++ ls.map V.int)) := upd_same
  replace z := z.stp sn tn
  clear sn tn
  generalize upd F10 b5 (.lst ([V.int 0] ++ ls.map V.int)) = F11 at z fn e_b5
  generalize upd H11 b5 _ = H12 at z ⊢
  replace eL := fn _ _ eL
  replace e_a1 := fn _ _ e_a1
  replace e_a2 := fn _ _ e_a2
  replace e_a3 := fn _ _ e_a3
  replace e_a4 := fn _ _ e_a4
  replace e_a5 := fn _ _ e_a5
  replace e_b1 := fn _ _ e_b1
  replace e_b2 := fn _ _ e_b2
  replace e_b3 := fn _ _ e_b3
  replace e_b4 := fn _ _ e_b4
  clear fn
  walk_at "r"
  refine s_slL (.of (z.s.1 _ _ eL)) fun b6 hb6 => ?_
  have sn := z.s.new (o := .lst (cutV (ls.map V.int) none (some (-1)))) hb6
  have tn := Stp.new (S := S1 p) (o := .lst (cutV (ls.map V.int) none (some (-1)))) z.s.1 hb6
  have fn := tn.ff
  have e_b6 : upd F11 b6 (.lst (cutV (ls.map V.int) none (some (-1)))) b6 = some (.lst (cutV (ls.map V.int) none (some (-1)))) := upd_same
  replace z := z.stp sn tn
  clear sn tn
  generalize upd F11 b6 (.lst (cutV (ls.map V.int) none (some (-1)))) = F12 at z fn e_b6
  generalize upd H12 b6 _ = H13 at z ⊢
  replace eL := fn _ _ eL
  replace e_a1 := fn _ _ e_a1
  replace e_a2 := fn _ _ e_a2
  replace e_a3 := fn _ _ e_a3
  replace e_a4 := fn _ _ e_a4
  replace e_a5 := fn _ _ e_a5
  replace e_b1 := fn _ _ e_b1
  replace e_b2 := fn _ _ e_b2
  replace e_b3 := fn _ _ e_b3
  replace e_b4 := fn _ _ e_b4
  replace e_b5 := fn _ _ e_b5
  clear fn
  walk_at "r"
  refine s_ixL (.of (z.s.1 _ _ eL)) hlast ?_
  walk_at "r"
  refine ⟨sz (by simp), fun b7 hb7 => ?_⟩
  have sn := z.s.new (o := .lst [.int (lastv - 1)]) hb7
  have tn := Stp.new (S := S1 p) (o := .lst [.int (lastv - 1)]) z.s.1 hb7
  have fn := tn.ff
  have e_b7 : upd F12 b7 (.lst [.int (lastv - 1)]) b7 = some (.lst [.int (lastv - 1)]) := upd_same
  replace z := z.stp sn tn
  clear sn tn
  generalize upd F12 b7 (.lst [.int (lastv - 1)]) = F13 at z fn e_b7
  generalize upd H13 b7 _ = H14 at z ⊢
  replace eL := fn _ _ eL
  replace e_a1 := fn _ _ e_a1
  replace e_a2 := fn _ _ e_a2
  replace e_a3 := fn _ _ e_a3
  replace e_a4 := fn _ _ e_a4
  replace e_a5 := fn _ _ e_a5
  replace e_b1 := fn _ _ e_b1
  replace e_b2 := fn _ _ e_b2
  replace e_b3 := fn _ _ e_b3
  replace e_b4 := fn _ _ e_b4
  replace e_b5 := fn _ _ e_b5
  replace e_b6 := fn _ _ e_b6
  clear fn
  walk_at "r"
  have lcut := cutV_length (ls.map V.int) none (some (-1))
  rw [List.length_map] at lcut
  refine ⟨b6, b7, _, _, rfl, rfl, z.s.1 _ _ e_b6, z.s.1 _ _ e_b7, sz (by show _ + 1 ≤ _; omega), fun b8 hb8 => ?_⟩
  have sn := z.s.new (o := .lst (cutV (ls.map V.int) none (some (-1)) ++ [V.int (lastv - 1)])) hb8
  have tn := Stp.new (S := S1 p) (o := .lst (cutV (ls.map V.int) none (some (-1)) ++ [V.int (lastv - 1)])) z.s.1 hb8
  have fn := tn.ff
  have e_b8 : upd F13 b8 (.lst (cutV (ls.map V.int) none (some (-1)) ++ [V.int (lastv - 1)])) b8 = some (.lst (cutV (ls.map V.int) none (some (-1)) ++ [V.int (lastv - 1)])) := upd_same
  replace z := z.stp sn tn
  clear sn tn
  generalize upd F13 b8 (.lst (cutV (ls.map V.int) none (some (-1)) ++ [V.int (lastv - 1)])) = F14 at z fn e_b8
  generalize upd H14 b8 _ = H15 at z ⊢
  replace eL := fn _ _ eL
  replace e_a1 := fn _ _ e_a1
  replace e_a2 := fn _ _ e_a2
  replace e_a3 := fn _ _ e_a3
  replace e_a4 := fn _ _ e_a4
  replace e_a5 := fn _ _ e_a5
  replace e_b1 := fn _ _ e_b1
  replace e_b2 := fn _ _ e_b2
  replace e_b3 := fn _ _ e_b3
  replace e_b4 := fn _ _ e_b4
  replace e_b5 := fn _ _ e_b5
  replace e_b6 := fn _ _ e_b6
  replace e_b7 := fn _ _ e_b7
  clear fn
  walk_at "r"
  refine ⟨sz (by simp), fun b9 hb9 => ?_⟩
  have sn := z.s.new (o := .lst [.int 1]) hb9
  have tn := Stp.new (S := S1 p) (o := .lst [.int 1]) z.s.1 hb9
  have fn := tn.ff
  have e_b9 : upd F14 b9 (.lst [.int 1]) b9 = some (.lst [.int 1]) := upd_same
  replace z := z.stp sn tn
  clear sn tn
  generalize upd F14 b9 (.lst [.int 1]) = F15 at z fn e_b9
  generalize upd H15 b9 _ = H16 at z ⊢
  replace eL := fn _ _ eL
  replace e_a1 := fn _ _ e_a1
  replace e_a2 := fn _ _ e_a2
  replace e_a3 := fn _ _ e_a3
  replace e_a4 := fn _ _ e_a4
  replace e_a5 := fn _ _ e_a5
  replace e_b1 := fn _ _ e_b1
  replace e_b2 := fn _ _ e_b2
  replace e_b3 := fn _ _ e_b3
  replace e_b4 := fn _ _ e_b4
  replace e_b5 := fn _ _ e_b5
  replace e_b6 := fn _ _ e_b6
  replace e_b7 := fn _ _ e_b7
  replace e_b8 := fn _ _ e_b8
  clear fn
  walk_at "r"
  refine s_rep (z.s.1 _ _ e_b9) (by decide) (by decide) fun b10 hb10 => ?_
  have sn := z.s.new (o := .lst (List.replicate (Int.toNat 7) (V.int 1))) hb10
  have tn := Stp.new (S := S1 p) (o := .lst (List.replicate (Int.toNat 7) (V.int 1))) z.s.1 hb10
  have fn := tn.ff
  have e_b10 : upd F15 b10 (.lst (List.replicate (Int.toNat 7) (V.int 1))) b10 = some (.lst (List.replicate (Int.toNat 7) (V.int 1))) := upd_same
  replace z := z.stp sn tn
  clear sn tn
  generalize upd F15 b10 (.lst (List.replicate (Int.toNat 7) (V.int 1))) = F16 at z fn e_b10
  generalize upd H16 b10 _ = H17 at z ⊢
  replace eL := fn _ _ eL
  replace e_a1 := fn _ _ e_a1
  replace e_a2 := fn _ _ e_a2
  replace e_a3 := fn _ _ e_a3
  replace e_a4 := fn _ _ e_a4
  replace e_a5 := fn _ _ e_a5
  replace e_b1 := fn _ _ e_b1
  replace e_b2 := fn _ _ e_b2
  replace e_b3 := fn _ _ e_b3
  replace e_b4 := fn _ _ e_b4
  replace e_b5 := fn _ _ e_b5
  replace e_b6 := fn _ _ e_b6
  replace e_b7 := fn _ _ e_b7
  replace e_b8 := fn _ _ e_b8
  replace e_b9 := fn _ _ e_b9
  clear fn
  walk_at "r"
  refine ⟨sz (by simp), fun b11 hb11 => ?_⟩
  have sn := z.s.new (o := .lst [.int (3 * pl + 1), .int (-1)]) hb11
  have tn := Stp.new (S := S1 p) (o := .lst [.int (3 * pl + 1), .int (-1)]) z.s.1 hb11
  have fn := tn.ff
  have e_b11 : upd F16 b11 (.lst [.int (3 * pl + 1), .int (-1)]) b11 = some (.lst [.int (3 * pl + 1), .int (-1)]) := upd_same
  replace z := z.stp sn tn
  clear sn tn
  generalize upd F16 b11 (.lst [.int (3 * pl + 1), .int (-1)]) = F17 at z fn e_b11
  generalize upd H17 b11 _ = H18 at z ⊢
  replace eL := fn _ _ eL
  replace e_a1 := fn _ _ e_a1
  replace e_a2 := fn _ _ e_a2
  replace e_a3 := fn _ _ e_a3
  replace e_a4 := fn _ _ e_a4
  replace e_a5 := fn _ _ e_a5
  replace e_b1 := fn _ _ e_b1
  replace e_b2 := fn _ _ e_b2
  replace e_b3 := fn _ _ e_b3
  replace e_b4 := fn _ _ e_b4
  replace e_b5 := fn _ _ e_b5
  replace e_b6 := fn _ _ e_b6
  replace e_b7 := fn _ _ e_b7
  replace e_b8 := fn _ _ e_b8
  replace e_b9 := fn _ _ e_b9
  replace e_b10 := fn _ _ e_b10
  clear fn
  walk_at "r"
  refine ⟨sz (by simp), fun a6 ha6 => ?_⟩
  have sn := z.s.new (o := .lst [.ref b1, .ref b3, .ref b5, .ref b8, .ref b10, .ref b11]) ha6
  have tn := Stp.new (S := S1 p) (o := .lst [.ref b1, .ref b3, .ref b5, .ref b8, .ref b10, .ref b11]) z.s.1 ha6
  have fn := tn.ff
  have e_a6 : upd F17 a6 (.lst [.ref b1, .ref b3, .ref b5, .ref b8, .ref b10, .ref b11]) a6 = some (.lst [.ref b1, .ref b3, .ref b5, .ref b8, .ref b10, .ref b11]) := upd_same
  replace z := z.stp sn tn
  clear sn tn
  generalize upd F17 a6 (.lst [.ref b1, .ref b3, .ref b5, .ref b8, .ref b10, .ref b11]) = F18 at z fn e_a6
  generalize upd H18 a6 _ = H19 at z ⊢
  replace eL := fn _ _ eL
  replace e_a1 := fn _ _ e_a1
  replace e_a2 := fn _ _ e_a2
  replace e_a3 := fn _ _ e_a3
  replace e_a4 := fn _ _ e_a4
  replace e_a5 := fn _ _ e_a5
  replace e_b1 := fn _ _ e_b1
  replace e_b2 := fn _ _ e_b2
  replace e_b3 := fn _ _ e_b3
  replace e_b4 := fn _ _ e_b4
  replace e_b5 := fn _ _ e_b5
  replace e_b6 := fn _ _ e_b6
  replace e_b7 := fn _ _ e_b7
  replace e_b8 := fn _ _ e_b8
  replace e_b9 := fn _ _ e_b9
  replace e_b10 := fn _ _ e_b10
  replace e_b11 := fn _ _ e_b11
  clear fn
  walk_at "r"
  refine ⟨sz (by simp), fun a7 ha7 => ?_⟩
  have sn := z.s.new (o := .lst [.str (Str.ofString ""), .str (Str.ofString "BCL"), .str (Str.ofString "BCLLT"), .str (Str.ofString "bclt"), .str (Str.ofString "BCLTB"), .str (Str.ofString "BCLX"), .str (Str.ofString "BBCL")]) ha7
  have tn := Stp.new (S := S1 p) (o := .lst [.str (Str.ofString ""), .str (Str.ofString "BCL"), .str (Str.ofString "BCLLT"), .str (Str.ofString "bclt"), .str (Str.ofString "BCLTB"), .str (Str.ofString "BCLX"), .str (Str.ofString "BBCL")]) z.s.1 ha7
  have fn := tn.ff
  have e_a7 : upd F18 a7 (.lst [.str (Str.ofString ""), .str (Str.ofString "BCL"), .str (Str.ofString "BCLLT"), .str (Str.ofString "bclt"), .str (Str.ofString "BCLTB"), .str (Str.ofString "BCLX"), .str (Str.ofString "BBCL")]) a7 = some (.lst [.str (Str.ofString ""), .str (Str.ofString "BCL"), .str (Str.ofString "BCLLT"), .str (Str.ofString "bclt"), .str (Str.ofString "BCLTB"), .str (Str.ofString "BCLX"), .str (Str.ofString "BBCL")]) := upd_same
  replace z := z.stp sn tn
  clear sn tn
  generalize upd F18 a7 (.lst [.str (Str.ofString ""), .str (Str.ofString "BCL"), .str (Str.ofString "BCLLT"), .str (Str.ofString "bclt"), .str (Str.ofString "BCLTB"), .str (Str.ofString "BCLX"), .str (Str.ofString "BBCL")]) = F19 at z fn e_a7
  generalize upd H19 a7 _ = H20 at z ⊢
  replace eL := fn _ _ eL
  replace e_a1 := fn _ _ e_a1
  replace e_a2 := fn _ _ e_a2
  replace e_a3 := fn _ _ e_a3
  replace e_a4 := fn _ _ e_a4
  replace e_a5 := fn _ _ e_a5
  replace e_b1 := fn _ _ e_b1
  replace e_b2 := fn _ _ e_b2
  replace e_b3 := fn _ _ e_b3
  replace e_b4 := fn _ _ e_b4
  replace e_b5 := fn _ _ e_b5
  replace e_b6 := fn _ _ e_b6
  replace e_b7 := fn _ _ e_b7
  replace e_b8 := fn _ _ e_b8
  replace e_b9 := fn _ _ e_b9
  replace e_b10 := fn _ _ e_b10
  replace e_b11 := fn _ _ e_b11
  replace e_a6 := fn _ _ e_a6
  clear fn
  walk_at "r"
  refine ⟨sz (by simp), fun a8 ha8 => ?_⟩
  have sn := z.s.new (o := .lst [.ref a1, .ref a2, .ref a3, .ref a4, .ref a5, .ref a6, .ref a7]) ha8
  have tn := Stp.new (S := S1 p) (o := .lst [.ref a1, .ref a2, .ref a3, .ref a4, .ref a5, .ref a6, .ref a7]) z.s.1 ha8
  have fn := tn.ff
  have e_a8 : upd F19 a8 (.lst [.ref a1, .ref a2, .ref a3, .ref a4, .ref a5, .ref a6, .ref a7]) a8 = some (.lst [.ref a1, .ref a2, .ref a3, .ref a4, .ref a5, .ref a6, .ref a7]) := upd_same
  replace z := z.stp sn tn
  clear sn tn
  generalize upd F19 a8 (.lst [.ref a1, .ref a2, .ref a3, .ref a4, .ref a5, .ref a6, .ref a7]) = F20 at z fn e_a8
  generalize upd H20 a8 _ = H21 at z ⊢
  replace eL := fn _ _ eL
  replace e_a1 := fn _ _ e_a1
  replace e_a2 := fn _ _ e_a2
  replace e_a3 := fn _ _ e_a3
  replace e_a4 := fn _ _ e_a4
  replace e_a5 := fn _ _ e_a5
  replace e_b1 := fn _ _ e_b1
  replace e_b2 := fn _ _ e_b2
  replace e_b3 := fn _ _ e_b3
  replace e_b4 := fn _ _ e_b4
  replace e_b5 := fn _ _ e_b5
  replace e_b6 := fn _ _ e_b6
  replace e_b7 := fn _ _ e_b7
  replace e_b8 := fn _ _ e_b8
  replace e_b9 := fn _ _ e_b9
  replace e_b10 := fn _ _ e_b10
  replace e_b11 := fn _ _ e_b11
  replace e_a6 := fn _ _ e_a6
  replace e_a7 := fn _ _ e_a7
  clear fn
  walk_at "r"
  have hk : k = 0 ∨ k = 1 ∨ k = 2 ∨ k = 3 ∨ k = 4 ∨ k = 5 ∨ k = 6 := by omega
  rcases hk with rfl | rfl | rfl | rfl | rfl | rfl | rfl
  · refine s_ixL (.of (z.s.1 _ _ e_a8)) (show atI _ _ = some (.ref a1) from rfl) ?_
    walk_at "r"
    refine ⟨rfl, F20, p, a1, _, rfl, z.s, .of e_a1, by simp, by simp, fun x5 H22 s2 t2 hx5 => ?_⟩
    replace z := z.stp s2 t2
    clear s2 t2
    simp only [List.mem_cons, List.not_mem_nil, or_false] at hx5
    obtain ⟨nv, rfl⟩ : OkI x5 := by
      rcases hx5 with rfl | rfl | rfl <;> exact ⟨_, rfl⟩
    walk_at "r"
    refine s_setL z.a (show ixN _ _ = some 1 from rfl) ?_
    walk_at "r"
    exact ⟨_, { T with mode := nv }, _, _, _, rfl, z.set rfl rfl z.l ⟨z.b.w, z.b.ws, z.b.l, z.b.o, z.b.os⟩, eL⟩
  · refine s_ixL (.of (z.s.1 _ _ e_a8)) (show atI _ _ = some (.ref a2) from rfl) ?_
    walk_at "r"
    refine ⟨rfl, F20, p, a2, _, rfl, z.s, .of e_a2, by simp, by simp, fun x5 H22 s2 t2 hx5 => ?_⟩
    replace z := z.stp s2 t2
    clear s2 t2
    simp only [List.mem_cons, List.not_mem_nil, or_false] at hx5
    obtain ⟨nv, rfl⟩ : OkI x5 := by
      rcases hx5 with rfl | rfl | rfl <;> exact ⟨_, rfl⟩
    walk_at "r"
    refine s_setL z.a (show ixN _ _ = some 2 from rfl) ?_
    walk_at "r"
    exact ⟨_, { T with tx := nv }, _, _, _, rfl, z.set rfl rfl z.l ⟨z.b.w, z.b.ws, z.b.l, z.b.o, z.b.os⟩, eL⟩
  · refine s_ixL (.of (z.s.1 _ _ e_a8)) (show atI _ _ = some (.ref a3) from rfl) ?_
    walk_at "r"
    refine ⟨rfl, F20, p, a3, _, rfl, z.s, .of e_a3, by simp, by simp, fun x5 H22 s2 t2 hx5 => ?_⟩
    replace z := z.stp s2 t2
    clear s2 t2
    simp only [List.mem_cons, List.not_mem_nil, or_false] at hx5
    obtain ⟨nv, rfl⟩ : OkI x5 := by
      rcases hx5 with rfl | rfl | rfl <;> exact ⟨_, rfl⟩
    walk_at "r"
    refine s_setL z.a (show ixN _ _ = some 3 from rfl) ?_
    walk_at "r"
    exact ⟨_, { T with ty := nv }, _, _, _, rfl, z.set rfl rfl z.l ⟨z.b.w, z.b.ws, z.b.l, z.b.o, z.b.os⟩, eL⟩
  · refine s_ixL (.of (z.s.1 _ _ e_a8)) (show atI _ _ = some (.ref a4) from rfl) ?_
    walk_at "r"
    refine ⟨rfl, F20, p, a4, _, rfl, z.s, .of e_a4, by simp, by simp, fun x5 H22 s2 t2 hx5 => ?_⟩
    replace z := z.stp s2 t2
    clear s2 t2
    simp only [List.mem_cons, List.not_mem_nil, or_false] at hx5
    obtain ⟨nv, rfl, gnv, lnv⟩ : OkW 30 x5 := by
      rcases hx5 with rfl | rfl | rfl | rfl | rfl
      · exact ⟨_, rfl, by unfold SgT; decide +kernel, by decide +kernel⟩
      · exact ⟨_, rfl, sg_app gW (by unfold SgT; decide +kernel), by rw [len_app]; omega⟩
      · exact ⟨_, rfl, mx.2.2, by have := mx.2.1; omega⟩
      · exact ⟨_, rfl, sg_app my.2.2 gW, by have := my.2.1; rw [len_app]; omega⟩
      · exact ⟨_, rfl, by unfold SgT; decide +kernel, by decide +kernel⟩
    walk_at "r"
    refine s_setL z.a (show ixN _ _ = some 4 from rfl) ?_
    walk_at "r"
    exact ⟨_, { T with word := nv }, _, _, _, rfl, z.set rfl rfl z.l ⟨by show nv.length < 64; omega, gnv, z.b.l, z.b.o, z.b.os⟩, eL⟩
  · refine s_ixL (.of (z.s.1 _ _ e_a8)) (show atI _ _ = some (.ref a5) from rfl) ?_
    walk_at "r"
    refine ⟨rfl, F20, p, a5, _, rfl, z.s, .of e_a5, by simp, by simp, fun x5 H22 s2 t2 hx5 => ?_⟩
    replace z := z.stp s2 t2
    clear s2 t2
    simp only [List.mem_cons, List.not_mem_nil, or_false] at hx5
    obtain ⟨nv, rfl⟩ : OkI x5 := by
      rcases hx5 with rfl | rfl | rfl <;> exact ⟨_, rfl⟩
    walk_at "r"
    refine s_setL z.a (show ixN _ _ = some 5 from rfl) ?_
    walk_at "r"
    exact ⟨_, { T with planes := nv }, _, _, _, rfl, z.set rfl rfl z.l ⟨z.b.w, z.b.ws, z.b.l, z.b.o, z.b.os⟩, eL⟩
  · refine s_ixL (.of (z.s.1 _ _ e_a8)) (show atI _ _ = some (.ref a6) from rfl) ?_
    walk_at "r"
    refine ⟨rfl, F20, p, a6, _, rfl, z.s, .of e_a6, by simp, by simp, fun x5 H22 s2 t2 hx5 => ?_⟩
    replace z := z.stp s2 t2
    clear s2 t2
    simp only [List.mem_cons, List.not_mem_nil, or_false] at hx5
    obtain ⟨ms, hms, lms⟩ := cut_ints ls none (some (-1))
    obtain ⟨lv, nv, rfl, env, lnv⟩ : OkL F20 x5 := by
      rcases hx5 with rfl | rfl | rfl | rfl | rfl | rfl
      · exact ⟨_, [], rfl, e_b1, by simp⟩
      · exact ⟨_, ls ++ [1], rfl, by rw [e_b3]; simp, by simp; omega⟩
      · exact ⟨_, 0 :: ls, rfl, e_b5, by simp; omega⟩
      · exact ⟨_, ms ++ [lastv - 1], rfl, by rw [e_b8, hms]; simp, by simp; omega⟩
      · exact ⟨_, List.replicate 7 1, rfl, by rw [e_b10]; rfl, by simp⟩
      · exact ⟨_, [3 * pl + 1, -1], rfl, e_b11, by simp⟩
    walk_at "r"
    refine s_setL z.a (show ixN _ _ = some 6 from rfl) ?_
    walk_at "r"
    exact ⟨_, { T with layers := nv }, _, _, _, rfl, z.set rfl rfl env ⟨z.b.w, z.b.ws, by show nv.length < 64; omega, z.b.o, z.b.os⟩, eL⟩
  · refine s_ixL (.of (z.s.1 _ _ e_a8)) (show atI _ _ = some (.ref a7) from rfl) ?_
    walk_at "r"
    refine ⟨rfl, F20, p, a7, _, rfl, z.s, .of e_a7, by simp, by simp, fun x5 H22 s2 t2 hx5 => ?_⟩
    replace z := z.stp s2 t2
    clear s2 t2
    simp only [List.mem_cons, List.not_mem_nil, or_false] at hx5
    obtain ⟨nv, rfl, gnv, lnv⟩ : OkW 10 x5 := by
      rcases hx5 with rfl | rfl | rfl | rfl | rfl | rfl | rfl <;> exact ⟨_, rfl, by unfold SgT; decide +kernel, by decide +kernel⟩
    walk_at "r"
    refine s_setL z.a (show ixN _ _ = some 7 from rfl) ?_
    walk_at "r"
    exact ⟨_, { T with order := nv }, _, _, _, rfl, z.set rfl rfl z.l ⟨z.b.w, z.b.ws, z.b.l, by show nv.length < 64; omega, gnv⟩, eL⟩
abbrev s_law_wrong : Stmt := topS 24
theorem sc_law_wrong : FnScope ["_law_things_here", "_law_rect", "_law_mode", "_law_tx", "_law_ty", "_law_word", "_law_planes", "_law_layers_here", "_law_order", "_law_x0", "_law_x1", "_law_y0", "_law_y1", "_law_name", "_law_size", "_law_sign", "_law_n"] ["_law_things_here"] (defScope s_law_wrong) := ⟨rfl, rfl, rfl, by decide +kernel, rfl, by decide +kernel, by decide +kernel⟩
def Ok_law_wrong (P : Program) (w : World) (K : PySem.W.Frag) (mg : Str → Option Value) (base : Heap) : Prop := ∃ fA fd, Fn P w K mg base (L2.CX P w) 1 "_law_wrong" s_law_wrong fA fd ["_law_things_here"] (sp_law_wrong K mg)
theorem okx_law_wrong (Z : Zs K mg) {fA : Addr} {fd : FuncData} (F : Fun K "_law_wrong" "_law_wrong" s_law_wrong fA fd) (m : mg "_law_wrong" = some (.ref fA))  : Fn P w K mg base (L2.CX P w) 1 "_law_wrong" s_law_wrong fA fd ["_law_things_here"] (sp_law_wrong K mg) := by
  refine ⟨F.okX sc_law_wrong (fun vs H Q E h => h.1) (fun cdv A outer s H vs Q E hr h => ?_), m, F.kp, F.binds fun _ _ _ _ _ _ us hl => match us, hl with | [_], _ => rfl, F⟩
  have hu64 := hr.units
  obtain ⟨hlen, h⟩ := h
  refine ⟨_, (pss_cons (ps_asg (pv 0) (pg_lst rfl (pgs_cons (pg_name (i := 1) sc_law_wrong.nd rfl (Or.inl rfl)) (pgs_cons (pg_name (i := 2) sc_law_wrong.nd rfl (Or.inl rfl)) (pgs_cons (pg_name (i := 3) sc_law_wrong.nd rfl (Or.inl rfl)) (pgs_cons (pg_name (i := 4) sc_law_wrong.nd rfl (Or.inl rfl)) (pgs_cons (pg_name (i := 5) sc_law_wrong.nd rfl (Or.inl rfl)) (pgs_cons (pg_name (i := 6) sc_law_wrong.nd rfl (Or.inl rfl)) (pgs_cons (pg_name (i := 7) sc_law_wrong.nd rfl (Or.inl rfl)) (pgs_cons (pg_name (i := 8) sc_law_wrong.nd rfl (Or.inl rfl)) pgs_nil))))))))))
    (pss_cons (ps_asg (pv 1) (pg_tup rfl (pgs_cons (pg_name (i := 9) sc_law_wrong.nd rfl (Or.inl rfl)) (pgs_cons (pg_name (i := 10) sc_law_wrong.nd rfl (Or.inl rfl)) (pgs_cons (pg_name (i := 11) sc_law_wrong.nd rfl (Or.inl rfl)) (pgs_cons (pg_name (i := 12) sc_law_wrong.nd rfl (Or.inl rfl)) pgs_nil))))))
    (pss_cons (ps_if (pt_not (pt_chain op_le op_le (pe_un un_neg pe_int) (pv 9) pe_int))
      (pss_one (ps_ret pe_str))
      pss_nil)
    (pss_cons (ps_if (PW.pt (pw_or (pt_cmpR op_lt (pe_op op_sub (pv 10) (pv 9)) pe_int (nomark _)) (pw_or (pt_cmpR op_gt (pe_op op_sub (pv 10) (pv 9)) pe_int (nomark _)) (pw_or1 (pt_not (pt_chain op_le op_le (pe_un un_neg pe_int) (pv 10) pe_int))))))
      (pss_one (ps_ret pe_str))
      pss_nil)
    (pss_cons (ps_if (pt_not (pt_chain op_le op_le (pe_un un_neg pe_int) (pv 11) pe_int))
      (pss_one (ps_ret pe_str))
      pss_nil)
    (pss_cons (ps_if (PW.pt (pw_or (pt_cmpR op_lt (pe_op op_sub (pv 12) (pv 11)) pe_int (nomark _)) (pw_or (pt_cmpR op_gt (pe_op op_sub (pv 12) (pv 11)) pe_int (nomark _)) (pw_or1 (pt_not (pt_chain op_le op_le (pe_un un_neg pe_int) (pv 12) pe_int))))))
      (pss_one (ps_ret pe_str))
      pss_nil)
    (pss_cons (ps_if (pt_cmpR (o_notIn K rfl) (pv 2) (pe_lst (pa_cons pe_int (pa_cons pe_int (pa_cons pe_int pa_nil)))) rfl)
      (pss_one (ps_ret pe_str))
      pss_nil)
    (pss_cons (ps_for (passes_of rfl) rfl (pi_list (pe_lst (pa_cons (pe_tup (pa_cons pe_str (pa_cons (pv 3) pa_nil))) (pa_cons (pe_tup (pa_cons pe_str (pa_cons (pv 4) pa_nil))) pa_nil)))) (pg_tup rfl (pgs_cons (pg_name (i := 13) sc_law_wrong.nd rfl (Or.inl rfl)) (pgs_cons (pg_name (i := 14) sc_law_wrong.nd rfl (Or.inl rfl)) pgs_nil)))
      (pss_one (ps_if (pt_cmpR (o_notIn K rfl) (pv 14) (pe_lst (pa_cons pe_int (pa_cons pe_int (pa_cons pe_int (pa_cons pe_int (pa_cons pe_int (pa_cons pe_int pa_nil))))))) rfl)
      (pss_one (ps_ret (pv 13)))
      pss_nil)))
    (pss_cons (ps_if (PW.pt (pw_or (pt_cmpR (o_neD K rfl hu64) (pe_lc (own := [("_law_sign", 15)]) (g := gName 15) (tt := _) (by rfl) sc_law_wrong.nd (pi_str (pv 5)) (blkOk_by (own := [("_law_sign", 15)]) (N := ["_law_things_here", "_law_rect", "_law_mode", "_law_tx", "_law_ty", "_law_word", "_law_planes", "_law_layers_here", "_law_order", "_law_x0", "_law_x1", "_law_y0", "_law_y1", "_law_name", "_law_size", "_law_sign", "_law_n"]) (sc := defScope s_law_wrong) (by decide +kernel)) (fun _ _ _ _ _ => (pg_name (i := 15) sc_law_wrong.nd rfl (Or.inl rfl))) (fun _ _ _ _ _ => pts_one (pt_cmpR (o_notIn K rfl) (pv 15) (pe_lst (pa_cons pe_str (pa_cons pe_str pa_nil))) rfl)) (fun _ _ _ _ _ => (pv 15))) (pe_lst pa_nil) (nomark _)) (pw_or1 (pt_cmpR op_gt (pe_callB (c_len K rfl) (by rfl) Z.z_len (by decide +kernel) (pa_cons (pe_lc (own := [("_law_sign", 15)]) (g := gName 15) (tt := _) (by rfl) sc_law_wrong.nd (pi_str (pv 5)) (blkOk_by (own := [("_law_sign", 15)]) (N := ["_law_things_here", "_law_rect", "_law_mode", "_law_tx", "_law_ty", "_law_word", "_law_planes", "_law_layers_here", "_law_order", "_law_x0", "_law_x1", "_law_y0", "_law_y1", "_law_name", "_law_size", "_law_sign", "_law_n"]) (sc := defScope s_law_wrong) (by decide +kernel)) (fun _ _ _ _ _ => (pg_name (i := 15) sc_law_wrong.nd rfl (Or.inl rfl))) (fun _ _ _ _ _ => pts_one (pt_cmpR op_eq (pv 15) pe_str (nomark _))) (fun _ _ _ _ _ => pe_int)) pa_nil)) (pv 3) (nomark _)))))
      (pss_one (ps_ret pe_str))
      pss_nil)
    (pss_cons (ps_if (pt_cmpR op_gt (pe_callB (c_len K rfl) (by rfl) Z.z_len (by decide +kernel) (pa_cons (pe_lc (own := [("_law_sign", 15)]) (g := gName 15) (tt := _) (by rfl) sc_law_wrong.nd (pi_str (pv 5)) (blkOk_by (own := [("_law_sign", 15)]) (N := ["_law_things_here", "_law_rect", "_law_mode", "_law_tx", "_law_ty", "_law_word", "_law_planes", "_law_layers_here", "_law_order", "_law_x0", "_law_x1", "_law_y0", "_law_y1", "_law_name", "_law_size", "_law_sign", "_law_n"]) (sc := defScope s_law_wrong) (by decide +kernel)) (fun _ _ _ _ _ => (pg_name (i := 15) sc_law_wrong.nd rfl (Or.inl rfl))) (fun _ _ _ _ _ => pts_one (pt_cmpR op_eq (pv 15) pe_str (nomark _))) (fun _ _ _ _ _ => pe_int)) pa_nil)) (pv 4) (nomark _))
      (pss_one (ps_ret pe_str))
      pss_nil)
    (pss_cons (ps_if (pt_not (pt_chain op_le op_le pe_int (pv 6) pe_int))
      (pss_one (ps_ret pe_str))
      pss_nil)
    (pss_cons (ps_if (PW.pt (pw_or (pt_cmpR op_lt (pe_callB (c_len K rfl) (by rfl) Z.z_len (by decide +kernel) (pa_cons (pv 7) pa_nil)) pe_int (nomark _)) (pw_or (pt_cmpR op_gt (pe_callB (c_len K rfl) (by rfl) Z.z_len (by decide +kernel) (pa_cons (pv 7) pa_nil)) pe_int (nomark _)) (pw_or (pt_cmpR (o_neD K rfl hu64) (pe_lc (own := [("_law_n", 16)]) (g := gName 16) (tt := _) (by rfl) sc_law_wrong.nd (pi_list (pv 7)) (blkOk_by (own := [("_law_n", 16)]) (N := ["_law_things_here", "_law_rect", "_law_mode", "_law_tx", "_law_ty", "_law_word", "_law_planes", "_law_layers_here", "_law_order", "_law_x0", "_law_x1", "_law_y0", "_law_y1", "_law_name", "_law_size", "_law_sign", "_law_n"]) (sc := defScope s_law_wrong) (by decide +kernel)) (fun _ _ _ _ _ => (pg_name (i := 16) sc_law_wrong.nd rfl (Or.inl rfl))) (fun _ _ _ _ _ => pts_one (pt_cmpR op_lt (pv 16) pe_int (nomark _))) (fun _ _ _ _ _ => (pv 16))) (pe_lst pa_nil) (nomark _)) (pw_or1 (pt_cmpR op_ne (pe_callB (c_sum K rfl rfl) (by rfl) Z.z_sum (by decide +kernel) (pa_cons (pv 7) pa_nil)) (pe_op op_mul pe_int (pv 6)) (nomark _)))))))
      (pss_one (ps_ret pe_str))
      pss_nil)
    (pss_one (ps_ret (pe_ifExp (PW.pt (pw_and (pt_cmpR op_eq (pe_callB call_len_str (by rfl) Z.z_len (by decide +kernel) (pa_cons (pv 8) pa_nil)) pe_int (nomark _)) (pw_and1 (pt_cmpR (o_eqD K rfl hu64) (pe_callB (cr_sortedZ rfl) (by rfl) Z.z_sorted (by decide +kernel) (pa_cons (pv 8) pa_nil)) (pe_callB (cr_sortedZ rfl) (by rfl) Z.z_sorted (by decide +kernel) (pa_cons pe_str pa_nil)) (nomark _))))) pe_str pe_str))))))))))))))), ?_⟩
  obtain ⟨a, r, l, T, rfl, hO, hB, q⟩ := h
  have fin : ∀ n, wrong T = n → ∀ H', Same H H' → Q (.str n) H' := fun n e H' s => e ▸ q H' s
  have w0 := hB.w
  walk_at "r"
  refine ⟨a, _, rfl, .of hO.a, rfl, ?_⟩
  unfold thV
  walk_at "r"
  refine s_gtup (.of hO.r) rfl ?_
  unfold rectV
  walk_at "r"
  refine ifd (fun h0a => ?_) (fun h0a => ?_)
  rotate_left
  · have cf : okPlace T.x0 = false := decide_eq_false fun z => h0a z.1
    walk_at "r"
    exact fin _ (wrong_at (l := oks T) (i := 0) (by simp [oks, cf]) (by simp)) _ (Same.refl H)
  walk_at "r"
  refine ifn (fun h0b => ?_) (fun h0b => ?_)
  rotate_left
  · have cf : okPlace T.x0 = false := decide_eq_false fun z => h0b z.2
    walk_at "r"
    exact fin _ (wrong_at (l := oks T) (i := 0) (by simp [oks, cf]) (by simp)) _ (Same.refl H)
  have c0 : okPlace T.x0 = true := decide_eq_true ⟨h0a, h0b⟩
  walk_at "r"
  refine ifd (fun h1a => ?_) (fun h1a => ?_)
  · have cf : okSide T.x0 T.x1 = false := decide_eq_false fun z => by omega
    walk_at "r"
    exact fin _ (wrong_at (l := oks T) (i := 1) (by simp [oks, cf]) (by simp [oks, c0])) _ (Same.refl H)
  walk_at "r"
  refine ifd (fun h1b => ?_) (fun h1b => ?_)
  · have cf : okSide T.x0 T.x1 = false := decide_eq_false fun z => by omega
    walk_at "r"
    exact fin _ (wrong_at (l := oks T) (i := 1) (by simp [oks, cf]) (by simp [oks, c0])) _ (Same.refl H)
  walk_at "r"
  refine ifd (fun h1c => ?_) (fun h1c => ?_)
  rotate_left
  · have cf : okSide T.x0 T.x1 = false := decide_eq_false fun z => by omega
    walk_at "r"
    exact fin _ (wrong_at (l := oks T) (i := 1) (by simp [oks, cf]) (by simp [oks, c0])) _ (Same.refl H)
  walk_at "r"
  refine ifn (fun h1d => ?_) (fun h1d => ?_)
  rotate_left
  · have cf : okSide T.x0 T.x1 = false := decide_eq_false fun z => by omega
    walk_at "r"
    exact fin _ (wrong_at (l := oks T) (i := 1) (by simp [oks, cf]) (by simp [oks, c0])) _ (Same.refl H)
  have c1 : okSide T.x0 T.x1 = true := decide_eq_true ⟨by omega, by omega, h1c, h1d⟩
  walk_at "r"
  refine ifd (fun h2a => ?_) (fun h2a => ?_)
  rotate_left
  · have cf : okPlace T.y0 = false := decide_eq_false fun z => h2a z.1
    walk_at "r"
    exact fin _ (wrong_at (l := oks T) (i := 2) (by simp [oks, cf]) (by simp [oks, c0, c1])) _ (Same.refl H)
  walk_at "r"
  refine ifn (fun h2b => ?_) (fun h2b => ?_)
  rotate_left
  · have cf : okPlace T.y0 = false := decide_eq_false fun z => h2b z.2
    walk_at "r"
    exact fin _ (wrong_at (l := oks T) (i := 2) (by simp [oks, cf]) (by simp [oks, c0, c1])) _ (Same.refl H)
  have c2 : okPlace T.y0 = true := decide_eq_true ⟨h2a, h2b⟩
  walk_at "r"
  refine ifd (fun h3a => ?_) (fun h3a => ?_)
  · have cf : okSide T.y0 T.y1 = false := decide_eq_false fun z => by omega
    walk_at "r"
    exact fin _ (wrong_at (l := oks T) (i := 3) (by simp [oks, cf]) (by simp [oks, c0, c1, c2])) _ (Same.refl H)
  walk_at "r"
  refine ifd (fun h3b => ?_) (fun h3b => ?_)
  · have cf : okSide T.y0 T.y1 = false := decide_eq_false fun z => by omega
    walk_at "r"
    exact fin _ (wrong_at (l := oks T) (i := 3) (by simp [oks, cf]) (by simp [oks, c0, c1, c2])) _ (Same.refl H)
  walk_at "r"
  refine ifd (fun h3c => ?_) (fun h3c => ?_)
  rotate_left
  · have cf : okSide T.y0 T.y1 = false := decide_eq_false fun z => by omega
    walk_at "r"
    exact fin _ (wrong_at (l := oks T) (i := 3) (by simp [oks, cf]) (by simp [oks, c0, c1, c2])) _ (Same.refl H)
  walk_at "r"
  refine ifn (fun h3d => ?_) (fun h3d => ?_)
  rotate_left
  · have cf : okSide T.y0 T.y1 = false := decide_eq_false fun z => by omega
    walk_at "r"
    exact fin _ (wrong_at (l := oks T) (i := 3) (by simp [oks, cf]) (by simp [oks, c0, c1, c2])) _ (Same.refl H)
  have c3 : okSide T.y0 T.y1 = true := decide_eq_true ⟨by omega, by omega, h3c, h3d⟩
  walk_at "r"
  refine ⟨sz (by simp), fun m1 hm1 => ?_⟩
  have k1 := (Stp.new (S := S0) (o := .lst [.int 0, .int 1, .int 2]) (Same.refl H) hm1).same
  refine nin_ints (ns := [0, 1, 2]) (.of upd_same) ?_
  generalize upd H m1 _ = H1 at k1 ⊢
  walk_at "r"
  refine ifn (fun h4 => ?_) (fun h4 => ?_)
  rotate_left
  · have cf : okIn 0 2 T.mode = false := decide_eq_false fun z => h4 (by simp; omega)
    walk_at "r"
    exact fin _ (wrong_at (l := oks T) (i := 4) (by simp [oks, cf]) (by simp [oks, c0, c1, c2, c3])) _ k1
  have c4 : okIn 0 2 T.mode = true := decide_eq_true (by simp at h4; omega)
  walk_at "r"
  refine ⟨sz (by simp), fun t1 ht1 => ?_⟩
  have k2 := k1.trans (Stp.new (S := S0) (o := .tup [.str (Str.ofString "tx"), .int T.tx]) (Same.refl H1) ht1).same
  have et1 : upd H1 t1 (.tup [.str (Str.ofString "tx"), .int T.tx]) t1 = some (.tup [.str (Str.ofString "tx"), .int T.tx]) := upd_same
  generalize upd H1 t1 _ = H2 at k2 et1 ⊢
  walk_at "r"
  refine ⟨sz (by simp), fun t2 ht2 => ?_⟩
  have k3' := (Stp.new (S := S0) (o := .tup [.str (Str.ofString "ty"), .int T.ty]) (Same.refl H2) ht2).same
  have et2 : upd H2 t2 (.tup [.str (Str.ofString "ty"), .int T.ty]) t2 = some (.tup [.str (Str.ofString "ty"), .int T.ty]) := upd_same
  have k3 := k2.trans k3'
  replace et1 := k3' _ _ et1
  generalize upd H2 t2 _ = H3 at k3 k3' et1 et2 ⊢
  walk_at "r"
  refine ⟨sz (by simp), fun tl htl => ?_⟩
  have k4' := (Stp.new (S := S0) (o := .lst [.ref t1, .ref t2]) (Same.refl H3) htl).same
  have etl : upd H3 tl (.lst [.ref t1, .ref t2]) tl = some (.lst [.ref t1, .ref t2]) := upd_same
  have k4 := k3.trans k4'
  replace et1 := k4' _ _ et1
  replace et2 := k4' _ _ et2
  generalize upd H3 tl _ = H4 at k4 k4' et1 et2 etl ⊢
  clear k1 k2 k3 k3' k4'
  walk_at "r"
  refine ⟨_, rfl, ⟨_, .of etl⟩, ?_⟩
  refine forL (xs := [.ref t1, .ref t2]) (fun i σ H' => ∃ v1 v2, σ = [some (.ref a), some (.ref r), some (.int T.mode), some (.int T.tx), some (.int T.ty), some (.str T.word), some (.int T.planes), some (.ref l), some (.str T.order), some (.int T.x0), some (.int T.x1), some (.int T.y0), some (.int T.y1), v1, v2, none, none] ∧ Same H4 H' ∧ (1 ≤ i → okIn 0 5 T.tx = true) ∧ (2 ≤ i → okIn 0 5 T.ty = true)) ⟨_, _, rfl, Same.refl _, by simp, by simp⟩ (fun i σ H' _ ⟨_, _, _, e, _⟩ => .of (e _ _ etl)) ?_ ?_
  · rintro i x σ H5 hx ⟨v1, v2, rfl, k5, g1, g2⟩
    have hi : i = 0 ∨ i = 1 := by
      have := (List.getElem?_eq_some_iff.mp hx).1
      simp at this; omega
    rcases hi with rfl | rfl
    · have ex : x = .ref t1 := by simpa using hx.symm
      subst ex
      refine s_gtup (.of (k5 _ _ et1)) rfl ?_
      walk_at "r"
      refine ⟨sz (by simp), fun m2 hm2 => ?_⟩
      have k6 := k5.trans (Stp.new (S := S0) (o := .lst [.int 0, .int 1, .int 2, .int 3, .int 4, .int 5]) (Same.refl H5) hm2).same
      refine nin_ints (ns := [0, 1, 2, 3, 4, 5]) (.of upd_same) ?_
      generalize upd H5 m2 _ = H6 at k6 ⊢
      walk_at "r"
      refine ifn (fun h5 => ?_) (fun h5 => ?_)
      rotate_left
      · have cf : okIn 0 5 T.tx = false := decide_eq_false fun z => h5 (by simp; omega)
        walk_at "r"
        exact fin _ (wrong_at (l := oks T) (i := 5) (by simp [oks, cf]) (by simp [oks, c0, c1, c2, c3, c4])) _ (k4.trans k6)
      walk_at "r"
      exact ⟨_, _, rfl, k6, fun _ => decide_eq_true (by simp at h5; omega), fun h => absurd h (by omega)⟩
    · have ex : x = .ref t2 := by simpa using hx.symm
      subst ex
      refine s_gtup (.of (k5 _ _ et2)) rfl ?_
      walk_at "r"
      refine ⟨sz (by simp), fun m2 hm2 => ?_⟩
      have k6 := k5.trans (Stp.new (S := S0) (o := .lst [.int 0, .int 1, .int 2, .int 3, .int 4, .int 5]) (Same.refl H5) hm2).same
      refine nin_ints (ns := [0, 1, 2, 3, 4, 5]) (.of upd_same) ?_
      generalize upd H5 m2 _ = H6 at k6 ⊢
      walk_at "r"
      have c5 := g1 (by omega)
      refine ifn (fun h5 => ?_) (fun h5 => ?_)
      rotate_left
      · have cf : okIn 0 5 T.ty = false := decide_eq_false fun z => h5 (by simp; omega)
        walk_at "r"
        exact fin _ (wrong_at (l := oks T) (i := 6) (by simp [oks, cf]) (by simp [oks, c0, c1, c2, c3, c4, c5])) _ (k4.trans k6)
      walk_at "r"
      exact ⟨_, _, rfl, k6, fun _ => c5, fun _ => decide_eq_true (by simp at h5; omega)⟩
  rintro σ H5 ⟨v1, v2, rfl, k5, g1, g2⟩
  have c5 := g1 (by simp)
  have c6 := g2 (by simp)
  have sm := k4.trans k5
  clear g1 g2 k5 k4 et1 et2 etl ht1 ht2 htl hm1
  walk_at "r"
  refine ⟨_, rfl, ?_⟩
  have hsz : T.word.cps.size = T.word.cps.toList.length := Array.length_toList.symm
  have hw64 : T.word.cps.toList.length < 64 := by rw [← hsz]; exact w0
  refine lcW walk_str S0 (Same.refl _) (fun _ z => z.elim) (fun _ _ _ => trivial) (fun i acc F1 H1 => acc = (((T.word.cps.toList.take i).filter fun c => !decide (c = 88 ∨ c = 89)).map one).map V.str) (fun _ _ _ _ _ _ _ _ _ r => r) rfl ?_ ?_
  · rintro i x acc d F1 H6 H7 hi ⟨rfl, c, hc, rfl⟩ hd nS st f0 e hl rr
    have hc2 : T.word.cps.toList[i]? = some c := by rw [Array.getElem?_toList]; exact hc
    walk_at "r"
    refine ⟨sz (by simp), fun q1 hq1 => ?_⟩
    have s2 := Stp.new (S := S0) (o := .lst [.str (Str.ofString "X"), .str (Str.ofString "Y")]) st.fh hq1
    refine nin_XY (.of upd_same) ?_
    walk_at "r"
    refine ifn (fun hin => ?_) (fun hin => ?_)
    · refine lc_skip hd nS st f0 e hl s2 ?_
      rw [rr, List.take_succ, hc2]
      rcases hin with rfl | rfl <;> simp
    · walk_at "r"
      refine lc_end hd nS st f0 e hl (by have := (List.getElem?_eq_some_iff.mp hc2).1; omega) s2 ?_
      rw [rr, List.take_succ, hc2]
      obtain ⟨h88, h89⟩ := not_or.mp hin
      simp [h88, h89, one]
  intro d acc F0 F1 H6 st hd f0 ef st1 hl2 rr
  have hd1 : H6 d = some (.lst acc) := by rw [ef] at st1; exact st1.fh _ _ upd_same
  subst rr
  rw [hsz, List.take_length] at hd1
  have sm6 := sm.trans st.same
  clear st hd f0 ef st1 hl2
  walk_at "r"
  refine ⟨sz (by simp), fun q2 hq2 => ?_⟩
  have k7 := (Stp.new (S := S0) (o := .lst []) (Same.refl H6) hq2).same
  refine s_neStrs (ns := (T.word.cps.toList.filter fun c => !decide (c = 88 ∨ c = 89)).map one) (ms := []) (one_sg (fun c hc => hB.ws c (List.mem_filter.mp hc).1) (List.Perm.refl _)) (fun x h => by cases h) (.of (k7 _ _ hd1)) (.of upd_same) ?_
  have sm7 := sm6.trans k7
  generalize upd H6 q2 _ = H7 at sm7 ⊢
  clear k7 hd1 sm6
  walk_at "r"
  refine ifn (fun h7 => ?_) (fun h7 => ?_)
  rotate_left
  · have cf : okWord T.word T.tx T.ty = false := Bool.eq_false_iff.mpr fun z => h7 (by rw [(okWord_of.mp z).1]; rfl)
    walk_at "r"
    exact fin _ (wrong_at (l := oks T) (i := 7) (by simp [oks, cf]) (by simp [oks, c0, c1, c2, c3, c4, c5, c6])) _ sm7
  rw [List.map_eq_nil_iff] at h7
  walk_at "r"
  refine ⟨_, rfl, ?_⟩
  refine lcW walk_str S0 (Same.refl _) (fun _ z => z.elim) (fun _ _ _ => trivial) (fun i acc F1 H1 => acc = ((T.word.cps.toList.take i).filter fun c => decide (c = 88)).map fun _ => V.int 1) (fun _ _ _ _ _ _ _ _ _ r => r) rfl ?_ ?_
  · rintro i x acc d F1 H8 H9 hi ⟨rfl, c, hc, rfl⟩ hd nS st f0 e hl rr
    have hc2 : T.word.cps.toList[i]? = some c := by rw [Array.getElem?_toList]; exact hc
    walk_at "r"
    refine ifd (fun hin => ?_) (fun hin => ?_)
    · have hin2 : c = 88 := (one_eq88 c).mp hin
      walk_at "r"
      refine lc_end hd nS st f0 e hl (by have := (List.getElem?_eq_some_iff.mp hc2).1; omega) (.rfl' st.fh) ?_
      rw [rr, List.take_succ, hc2]
      simp [hin2]
    · have hin2 : ¬ c = 88 := fun z => hin ((one_eq88 c).mpr z)
      refine lc_skip hd nS st f0 e hl (.rfl' st.fh) ?_
      rw [rr, List.take_succ, hc2]
      simp [hin2]
  intro d acc F0 F1 H8 st hd f0 ef st1 hl2 rr
  have hd1 : H8 d = some (.lst acc) := by rw [ef] at st1; exact st1.fh _ _ upd_same
  subst rr
  rw [hsz, List.take_length] at hd1
  have sm8 := sm7.trans st.same
  clear st hd f0 ef st1 hl2
  walk_at "r"
  rw [cnt_filter]
  refine ifd (fun h7x => ?_) (fun h7x => ?_)
  · have cf : okWord T.word T.tx T.ty = false := Bool.eq_false_iff.mpr fun z => absurd (okWord_of.mp z).2.1 (by unfold cX; omega)
    walk_at "r"
    exact fin _ (wrong_at (l := oks T) (i := 7) (by simp [oks, cf]) (by simp [oks, c0, c1, c2, c3, c4, c5, c6])) _ sm8
  clear hd1
  walk_at "r"
  refine ⟨_, rfl, ?_⟩
  refine lcW walk_str S0 (Same.refl _) (fun _ z => z.elim) (fun _ _ _ => trivial) (fun i acc F1 H1 => acc = ((T.word.cps.toList.take i).filter fun c => decide (c = 89)).map fun _ => V.int 1) (fun _ _ _ _ _ _ _ _ _ r => r) rfl ?_ ?_
  · rintro i x acc d F1 H8 H9 hi ⟨rfl, c, hc, rfl⟩ hd nS st f0 e hl rr
    have hc2 : T.word.cps.toList[i]? = some c := by rw [Array.getElem?_toList]; exact hc
    walk_at "r"
    refine ifd (fun hin => ?_) (fun hin => ?_)
    · have hin2 : c = 89 := (one_eq89 c).mp hin
      walk_at "r"
      refine lc_end hd nS st f0 e hl (by have := (List.getElem?_eq_some_iff.mp hc2).1; omega) (.rfl' st.fh) ?_
      rw [rr, List.take_succ, hc2]
      simp [hin2]
    · have hin2 : ¬ c = 89 := fun z => hin ((one_eq89 c).mpr z)
      refine lc_skip hd nS st f0 e hl (.rfl' st.fh) ?_
      rw [rr, List.take_succ, hc2]
      simp [hin2]
  intro d acc F0 F1 H8 st hd f0 ef st1 hl2 rr
  have hd1 : H8 d = some (.lst acc) := by rw [ef] at st1; exact st1.fh _ _ upd_same
  subst rr
  rw [hsz, List.take_length] at hd1
  have sm9 := sm8.trans st.same
  clear st hd f0 ef st1 hl2
  walk_at "r"
  rw [cnt_filter]
  refine ifd (fun h7y => ?_) (fun h7y => ?_)
  · have cf : okWord T.word T.tx T.ty = false := Bool.eq_false_iff.mpr fun z => absurd (okWord_of.mp z).2.2 (by unfold cY; omega)
    walk_at "r"
    exact fin _ (wrong_at (l := oks T) (i := 7) (by simp [oks, cf]) (by simp [oks, c0, c1, c2, c3, c4, c5, c6])) _ sm9
  clear hd1
  have c7 : okWord T.word T.tx T.ty = true := okWord_of.mpr ⟨h7, by unfold cX; omega, by unfold cY; omega⟩
  walk_at "r"
  refine ifd (fun h8a => ?_) (fun h8a => ?_)
  rotate_left
  · have cf : okIn 1 20 T.planes = false := decide_eq_false fun z => h8a z.1
    walk_at "r"
    exact fin _ (wrong_at (l := oks T) (i := 8) (by simp [oks, cf]) (by simp [oks, c0, c1, c2, c3, c4, c5, c6, c7])) _ sm9
  walk_at "r"
  refine ifn (fun h8b => ?_) (fun h8b => ?_)
  rotate_left
  · have cf : okIn 1 20 T.planes = false := decide_eq_false fun z => h8b z.2
    walk_at "r"
    exact fin _ (wrong_at (l := oks T) (i := 8) (by simp [oks, cf]) (by simp [oks, c0, c1, c2, c3, c4, c5, c6, c7])) _ sm9
  have el := sm9 _ _ hO.l
  have c8 : okIn 1 20 T.planes = true := decide_eq_true ⟨h8a, h8b⟩
  walk_at "r"
  refine ifd (fun h9a => ?_) (fun h9a => ?_)
  · have cf : okLay T.layers T.planes = false := Bool.eq_false_iff.mpr fun z => absurd (okLay_of.mp z).1 (by rw [List.length_map] at h9a; omega)
    walk_at "r"
    exact fin _ (wrong_at (l := oks T) (i := 9) (by simp [oks, cf]) (by simp [oks, c0, c1, c2, c3, c4, c5, c6, c7, c8])) _ sm9
  walk_at "r"
  refine ifd (fun h9b => ?_) (fun h9b => ?_)
  · have cf : okLay T.layers T.planes = false := Bool.eq_false_iff.mpr fun z => absurd (okLay_of.mp z).2.1 (by rw [List.length_map] at h9b; omega)
    walk_at "r"
    exact fin _ (wrong_at (l := oks T) (i := 9) (by simp [oks, cf]) (by simp [oks, c0, c1, c2, c3, c4, c5, c6, c7, c8])) _ sm9
  rw [List.length_map] at h9a h9b
  walk_at "r"
  refine ⟨_, rfl, ⟨_, SqL.of el⟩, ?_⟩
  refine lcW (walk_list (xs := T.layers.map V.int)) S0 (Same.refl _) (fun _ z => z.elim) (fun F1 H1 st => st.same.seq (SqL.of el)) (fun i acc F1 H1 => acc = ((T.layers.take i).filter fun n => decide (n < 1)).map V.int) (fun _ _ _ _ _ _ _ _ _ r => r) rfl ?_ ?_
  · rintro j x acc d F1 H9 H10 hj ⟨rfl, hx⟩ hd nS st f0 e hl2 rr
    rw [List.getElem?_map] at hx
    cases z : T.layers[j]? with
    | none => rw [z] at hx; cases hx
    | some b =>
      rw [z] at hx
      cases hx
      walk_at "r"
      refine ifd (fun hin => ?_) (fun hin => ?_)
      · walk_at "r"
        refine lc_end hd nS st f0 e hl2 (by have := (List.getElem?_eq_some_iff.mp z).1; omega) (.rfl' st.fh) ?_
        rw [rr, List.take_succ, z]
        simp [hin]
      · refine lc_skip hd nS st f0 e hl2 (.rfl' st.fh) ?_
        rw [rr, List.take_succ, z]
        simp [hin]
  intro d acc F0 F1 H9 st hd f0 ef st1 hl2 rr
  have hd1 : H9 d = some (.lst acc) := by rw [ef] at st1; exact st1.fh _ _ upd_same
  subst rr
  rw [List.length_map, List.take_length] at hd1
  have smA := sm9.trans st.same
  clear st hd f0 ef st1 hl2
  walk_at "r"
  refine ⟨sz (by simp), fun q3 hq3 => ?_⟩
  have k8 := (Stp.new (S := S0) (o := .lst []) (Same.refl H9) hq3).same
  refine s_neL (ns := T.layers.filter fun n => decide (n < 1)) (ms := []) (.of (k8 _ _ hd1)) (.of upd_same) ?_
  have smB := smA.trans k8
  generalize upd H9 q3 _ = H10 at smB ⊢
  clear k8 hd1 smA
  walk_at "r"
  refine ifn (fun h9c => ?_) (fun h9c => ?_)
  rotate_left
  · have cf : okLay T.layers T.planes = false := Bool.eq_false_iff.mpr fun z => h9c (okLay_of.mp z).2.2.1
    walk_at "r"
    exact fin _ (wrong_at (l := oks T) (i := 9) (by simp [oks, cf]) (by simp [oks, c0, c1, c2, c3, c4, c5, c6, c7, c8])) _ smB
  walk_at "r"
  refine ⟨l, _, rfl, .of (smB _ _ hO.l), ?_⟩
  walk_at "r"
  refine ifn (fun h9d => ?_) (fun h9d => ?_)
  rotate_left
  · have cf : okLay T.layers T.planes = false := Bool.eq_false_iff.mpr fun z => h9d (okLay_of.mp z).2.2.2
    walk_at "r"
    exact fin _ (wrong_at (l := oks T) (i := 9) (by simp [oks, cf]) (by simp [oks, c0, c1, c2, c3, c4, c5, c6, c7, c8])) _ smB
  have c9 : okLay T.layers T.planes = true := okLay_of.mpr ⟨by omega, by omega, h9c, h9d⟩
  walk_at "r"
  have o64 := hB.o
  refine ⟨_, rfl, sz (by omega), ?_⟩
  walk_at "r"
  have hperm0 : okOrd T.order = true → T.order.cps.toList.length = 4 := fun z => (of_decide_eq_true z).length_eq
  have holen : T.order.cps.toList.length = T.order.length := Array.length_toList
  refine ifd (fun hAa => ?_) (fun hAa => ?_)
  rotate_left
  · have cf : okOrd T.order = false := Bool.eq_false_iff.mpr fun z => hAa (by have := hperm0 z; omega)
    walk_at "r"
    exact fin _ (wrong_at (l := oks T) (i := 10) (by simp [oks, cf]) (by simp [oks, c0, c1, c2, c3, c4, c5, c6, c7, c8, c9])) _ smB
  walk_at "r"
  refine ⟨T.order, rfl, hB.o, fun ys po hperm hsort hpo => ?_⟩
  have ko := (Stp.new (S := S0) (o := .lst (ys.map V.str)) (Same.refl H10) hpo).same
  have eo : upd H10 po (.lst (ys.map V.str)) po = some (.lst (ys.map V.str)) := upd_same
  generalize upd H10 po _ = H11 at ko eo ⊢
  walk_at "r"
  refine ⟨_, rfl, by decide +kernel, fun ws pw hperm2 hsort2 hpw => ?_⟩
  have kp := (Stp.new (S := S0) (o := .lst (ws.map V.str)) (Same.refl H11) hpw).same
  have tl : (Str.ofString "TLCB").cps.toList = [84, 76, 67, 66] := by decide +kernel
  rw [tl] at hperm2
  refine s_eqStrs (ns := ys) (ms := ws) (one_sg (fun c hc => hB.os c hc) hperm) (one_sg (a := [84, 76, 67, 66]) (by decide) hperm2) (.of (kp _ _ eo)) (.of upd_same) ?_
  have smC := smB.trans (ko.trans kp)
  generalize upd H11 pw _ = H12 at smC ⊢
  have iffO : ys = ws ↔ okOrd T.order = true := by
    unfold okOrd
    rw [decide_eq_true_iff, sortZ_iff hperm hsort hperm2 hsort2]
    have : ([84, 76, 67, 66] : List Nat).Perm [66, 67, 76, 84] := by decide
    exact ⟨fun z => z.trans this, fun z => z.trans this.symm⟩
  walk_at "r"
  refine ifd (fun hAb => ?_) (fun hAb => ?_)
  rotate_left
  · have cf : okOrd T.order = false := Bool.eq_false_iff.mpr fun z => hAb (iffO.mpr z)
    walk_at "r"
    exact fin _ (wrong_at (l := oks T) (i := 10) (by simp [oks, cf]) (by simp [oks, c0, c1, c2, c3, c4, c5, c6, c7, c8, c9])) _ smC
  have c10 := iffO.mp hAb
  walk_at "r"
  exact fin _ (wrong_no (l := oks T) (by simp [oks, c0, c1, c2, c3, c4, c5, c6, c7, c8, c9, c10])) _ smC
abbrev s_law_pieces : Stmt := topS 25
theorem sc_law_pieces : FnScope ["_law_things_here", "_law_x0", "_law_x1", "_law_y0", "_law_y1", "_law_mode", "_law_tx", "_law_ty", "_law_word", "_law_planes", "_law_layers_here", "_law_order", "_law_wide", "_law_high", "_law_tiles"] ["_law_things_here"] (defScope s_law_pieces) := ⟨rfl, rfl, rfl, by decide +kernel, rfl, by decide +kernel, by decide +kernel⟩
def Ok_law_pieces (P : Program) (w : World) (K : PySem.W.Frag) (mg : Str → Option Value) (base : Heap) : Prop := ∃ fA fd, Fn P w K mg base (L2.CX P w) 1 "_law_pieces" s_law_pieces fA fd ["_law_things_here"] (sp_law_pieces K mg)
theorem okx_law_pieces (Z : Zs K mg) {fA : Addr} {fd : FuncData} (F : Fun K "_law_pieces" "_law_pieces" s_law_pieces fA fd) (m : mg "_law_pieces" = some (.ref fA))  : Fn P w K mg base (L2.CX P w) 1 "_law_pieces" s_law_pieces fA fd ["_law_things_here"] (sp_law_pieces K mg) := by
  refine ⟨F.okX sc_law_pieces (fun vs H Q E h => h.1) (fun cdv A outer s H vs Q E hr h => ?_), m, F.kp, F.binds fun _ _ _ _ _ _ us hl => match us, hl with | [_], _ => rfl, F⟩
  have hu64 := hr.units
  obtain ⟨hlen, h⟩ := h
  refine ⟨_, (pss_cons (ps_asg (pv 0) (pg_lst rfl (pgs_cons (pg_tup rfl (pgs_cons (pg_name (i := 1) sc_law_pieces.nd rfl (Or.inl rfl)) (pgs_cons (pg_name (i := 2) sc_law_pieces.nd rfl (Or.inl rfl)) (pgs_cons (pg_name (i := 3) sc_law_pieces.nd rfl (Or.inl rfl)) (pgs_cons (pg_name (i := 4) sc_law_pieces.nd rfl (Or.inl rfl)) pgs_nil))))) (pgs_cons (pg_name (i := 5) sc_law_pieces.nd rfl (Or.inl rfl)) (pgs_cons (pg_name (i := 6) sc_law_pieces.nd rfl (Or.inl rfl)) (pgs_cons (pg_name (i := 7) sc_law_pieces.nd rfl (Or.inl rfl)) (pgs_cons (pg_name (i := 8) sc_law_pieces.nd rfl (Or.inl rfl)) (pgs_cons (pg_name (i := 9) sc_law_pieces.nd rfl (Or.inl rfl)) (pgs_cons (pg_name (i := 10) sc_law_pieces.nd rfl (Or.inl rfl)) (pgs_cons (pg_name (i := 11) sc_law_pieces.nd rfl (Or.inl rfl)) pgs_nil))))))))))
    (pss_cons (ps_par (i := 12) (j := 13) (by rfl) sc_law_pieces.nd rfl rfl (by decide) rfl rfl (pa_cons (pe_ix (i_list K rfl) (pe_lst (pa_cons pe_int (pa_cons pe_int (pa_cons pe_int (pa_cons pe_int (pa_cons pe_int (pa_cons pe_int pa_nil))))))) (pv 6) (fun _ _ => rfl)) (pa_cons (pe_ix (i_list K rfl) (pe_lst (pa_cons pe_int (pa_cons pe_int (pa_cons pe_int (pa_cons pe_int (pa_cons pe_int (pa_cons pe_int pa_nil))))))) (pv 7) (fun _ _ => rfl)) pa_nil)) (by rfl))
    (pss_cons (ps_set (i := 14) sc_law_pieces.nd rfl (Or.inl rfl) (pe_op op_mul (pe_op op_add (pe_op op_sub (pe_op op_fdiv (pe_op op_sub (pv 2) pe_int) (pv 12)) (pe_op op_fdiv (pv 1) (pv 12))) pe_int) (pe_op op_add (pe_op op_sub (pe_op op_fdiv (pe_op op_sub (pv 4) pe_int) (pv 13)) (pe_op op_fdiv (pv 3) (pv 13))) pe_int)))
    (pss_one (ps_ret (pe_op op_mul (pe_op op_mul (pe_op op_mul (pv 14) (pe_ifExp (pt_cmpR op_eq (pv 5) pe_int (nomark _)) pe_int pe_int)) (pe_op op_add (pe_callB call_len_str (by rfl) Z.z_len (by decide +kernel) (pa_cons (pv 8) pa_nil)) pe_int)) (pe_callB (c_len K rfl) (by rfl) Z.z_len (by decide +kernel) (pa_cons (pv 10) pa_nil)))))))), ?_⟩
  obtain ⟨a, r, l, T, rfl, hO, hB, g, q⟩ := h
  walk_at "r"
  refine ⟨a, _, rfl, .of hO.a, rfl, ?_⟩
  unfold thV
  walk_at "r"
  refine s_gtup (.of hO.r) rfl ?_
  unfold rectV
  walk_at "r"
  have pw := pow_b g.tx
  have pv := pow_b g.ty
  have b1 := tiles_b g.tx g.x0 g.w
  have b2 := tiles_b g.ty g.y0 g.h
  have a1 := pow_at g.tx
  have a2 := pow_at g.ty
  have hpc : ∀ c : Int, c = chan T → ((((T.x1 - 1) / 2 ^ T.tx.toNat - T.x0 / 2 ^ T.tx.toNat + 1) * ((T.y1 - 1) / 2 ^ T.ty.toNat - T.y0 / 2 ^ T.ty.toNat + 1) * c) * ((T.word.length : Nat) + 1 : Int)) * (T.layers.length : Nat) = pieces T := fun c hc => by
    subst hc
    unfold pieces lines tilesX tilesY
    ac_rfl
  have hw0 := hB.w
  have hl0 := hB.l
  have hch : chan T = if T.mode = 0 then 1 else 3 := rfl
  generalize (2 : Int) ^ T.tx.toNat = W at pw b1 a1 hpc
  generalize (2 : Int) ^ T.ty.toNat = Y at pv b2 a2 hpc
  refine ⟨sz (by simp), fun q1 hq1 => ?_⟩
  have k1 := (Stp.new (S := S0) (o := .lst [V.int 1, V.int 2, V.int 4, V.int 8, V.int 16, V.int 32]) (Same.refl H) hq1).same
  have e1 : upd H q1 (.lst [V.int 1, V.int 2, V.int 4, V.int 8, V.int 16, V.int 32]) q1 = some (.lst [V.int 1, V.int 2, V.int 4, V.int 8, V.int 16, V.int 32]) := upd_same
  generalize upd H q1 _ = H1 at k1 e1 ⊢
  walk_at "r"
  refine s_ixL (.of e1) a1 ?_
  walk_at "r"
  refine ⟨sz (by simp), fun q2 hq2 => ?_⟩
  have k2 := (Stp.new (S := S0) (o := .lst [V.int 1, V.int 2, V.int 4, V.int 8, V.int 16, V.int 32]) (Same.refl H1) hq2).same
  have e2 : upd H1 q2 (.lst [V.int 1, V.int 2, V.int 4, V.int 8, V.int 16, V.int 32]) q2 = some (.lst [V.int 1, V.int 2, V.int 4, V.int 8, V.int 16, V.int 32]) := upd_same
  generalize upd H1 q2 _ = H2 at k2 e2 ⊢
  walk_at "r"
  refine s_ixL (.of e2) a2 ?_
  walk_at "r"
  refine ifd (fun hm => ?_) (fun hm => ?_)
  · walk_at "r"
    refine ⟨_, rfl, sz (by omega), ?_⟩
    walk_at "r"
    refine s_len (.of (k2 _ _ (k1 _ _ hO.l))) ?_
    rw [List.length_map]
    walk_at "r"
    rw [hpc 1 (by rw [hch, if_pos hm])]
    exact q _ (k1.trans k2)
  · walk_at "r"
    refine ⟨_, rfl, sz (by omega), ?_⟩
    walk_at "r"
    refine s_len (.of (k2 _ _ (k1 _ _ hO.l))) ?_
    rw [List.length_map]
    walk_at "r"
    rw [hpc 3 (by rw [hch, if_neg hm])]
    exact q _ (k1.trans k2)
abbrev s_law_made : Stmt := topS 26
theorem sc_law_made : FnScope ["_law_things_here", "_law_layers_here", "e"] ["_law_things_here", "_law_layers_here"] (defScope s_law_made) := ⟨rfl, rfl, rfl, by decide +kernel, rfl, by decide +kernel, by decide +kernel⟩
def Ok_law_made (P : Program) (w : World) (K : PySem.W.Frag) (mg : Str → Option Value) (base : Heap) : Prop := ∃ fA fd, Fn P w K mg base (L2.CX P w) 8 "_law_made" s_law_made fA fd ["_law_things_here", "_law_layers_here"] (sp_law_made K mg)
theorem okx_law_made (Z : Zs K mg) {fA : Addr} {fd : FuncData} (F : Fun K "_law_made" "_law_made" s_law_made fA fd) (m : mg "_law_made" = some (.ref fA)) (C_Setting___init__ : Ok_Setting___init__ P w K mg base) : Fn P w K mg base (L2.CX P w) 8 "_law_made" s_law_made fA fd ["_law_things_here", "_law_layers_here"] (sp_law_made K mg) := by
  obtain ⟨_, _, C_Setting___init__, M_Setting___init__⟩ := C_Setting___init__
  refine ⟨F.okX sc_law_made (fun vs H Q E h => h.1) (fun cdv A outer s H vs Q E hr h => ?_), m, F.kp, F.binds fun _ _ _ _ _ _ us hl => match us, hl with | [_, _], _ => rfl, F⟩
  have hu64 := hr.units
  obtain ⟨hlen, h⟩ := h
  refine ⟨_, (pss_one (ps_tryH rfl rfl sc_law_made.nd takes0 (fun W pn xe tk px => (pss_one (ps_ret (pe_makeS M_Setting___init__ C_Setting___init__.G (hr.mono (by decide)) rfl Z.o_Setting.g C_Setting___init__.b (fun σ => passAt tk σ) (pa_cons (pe_ix (i_list K rfl) (pv 0) pe_int (fun _ _ => rfl)) (pa_cons (pe_ix (i_list K rfl) (pv 0) pe_int (fun _ _ => rfl)) (pa_cons (pe_ix (i_list K rfl) (pv 0) pe_int (fun _ _ => rfl)) (pa_cons (pe_ix (i_list K rfl) (pv 0) pe_int (fun _ _ => rfl)) (pa_cons (pe_ix (i_list K rfl) (pv 0) pe_int (fun _ _ => rfl)) (pa_cons (pe_ix (i_list K rfl) (pv 0) pe_int (fun _ _ => rfl)) (pa_cons (pv 1) (pa_cons (pe_ix (i_list K rfl) (pv 0) pe_int (fun _ _ => rfl)) pa_nil)))))))))))) (.named (i := 2) rfl rfl ⟨rfl, by decide, .inl Z.x_BadField.g⟩ (fun a oe cls d pn hz hf => (pss_one (ps_ret (pe_op op_add_str (pe_op op_add_str pe_str (pe_xf Z.x_BadField.xf Z.f_BadField_name hz hf (pv 2))) (pe_op op_smul pe_str (pe_callTy c_int1 (by rfl) Z.z_int (by decide +kernel) (pa_cons (pe_or (pe_callB (call_isY K rfl hz hf) (by rfl) Z.z_isinstance (by decide +kernel) (pa_cons (pv 2) (pa_cons (pe_glob (v := .ref (exA mg "TooMany")) rfl Z.x_TooMany.g rfl) pa_nil))) (pe_one (pe_callB (call_isY K rfl hz hf) (by rfl) Z.z_isinstance (by decide +kernel) (pa_cons (pv 2) (pa_cons (pe_glob (v := .ref (exA mg "BadGrid")) rfl Z.x_BadGrid.g rfl) pa_nil))))) pa_nil))))))) (.named (i := 2) rfl rfl ⟨rfl, by decide, .inl Z.x_TooMany.g⟩ (fun a oe cls d pn hz hf => (pss_one (ps_ret (pe_op op_add_str (pe_op op_add_str pe_str (pe_callTy call_str_int (by rfl) Z.z_str (by decide +kernel) (pa_cons (pe_xf Z.x_TooMany.xf Z.f_TooMany_most hz hf (pv 2)) pa_nil))) (pe_op op_smul pe_str (pe_callTy c_int1 (by rfl) Z.z_int (by decide +kernel) (pa_cons (pe_or (pe_callB (call_isY K rfl hz hf) (by rfl) Z.z_isinstance (by decide +kernel) (pa_cons (pv 2) (pa_cons (pe_glob (v := .ref (exA mg "BadGrid")) rfl Z.x_BadGrid.g rfl) pa_nil))) (pe_one (pe_not (pe_callB (call_isY K rfl hz hf) (by rfl) Z.z_isinstance (by decide +kernel) (pa_cons (pv 2) (pa_cons (pe_bltn (v := .ty "ValueError") (by rfl) Z.z_ValueError (by decide +kernel) rfl) pa_nil)))))) pa_nil))))))) (.anon ⟨rfl, by decide, .inl Z.x_NarrowError.g⟩ (fun a oe cls d pn hz hf => (pss_one (ps_ret pe_str))) .nil))))), ?_⟩
  obtain ⟨a, r, l, l2, T, rfl, hO, hl2, hB, qf, qm, qo⟩ := h
  walk_at "r"
  unfold tMakeS
  walk_at "r"
  refine s_ixL (.of hO.a) th0 ?_
  walk_at "r"
  refine s_ixL (.of hO.a) th1 ?_
  walk_at "r"
  refine s_ixL (.of hO.a) th2 ?_
  walk_at "r"
  refine s_ixL (.of hO.a) th3 ?_
  walk_at "r"
  refine s_ixL (.of hO.a) th4 ?_
  walk_at "r"
  refine s_ixL (.of hO.a) th5 ?_
  walk_at "r"
  refine s_ixL (.of hO.a) th7 ?_
  walk_at "r"
  intro x dx hx hdx hne
  have sx : Same H (upd (upd H dx (.own x)) x (.ins (exA mg "Setting") dx [])) := fun b o e => by
    rw [upd_ne (ne_of_none e hx), upd_ne (ne_of_none e hdx)]; exact e
  refine ⟨rfl, H, x, dx, r, l2, T, rfl, upd_same, sx, hx, .of hO.r, hl2, hB, fun d H1 hw s1 ed => ?_, fun d H1 hw hp s1 ed => ?_, fun r' l' H1 hw hp s1 hS => ⟨rfl, qo x dx r' l' H1 hw hp s1 hS⟩⟩
  · refine ⟨true, Z.x_BadField.exm Z.s_BadField_BadField, fun _ b hb => ?_, fun q => nomatch q⟩
    have hd : (some d = none) ∨ ∃ dd fs, some d = some dd ∧ H1 dd = some (HO.xd fs) := .inr ⟨d, _, rfl, ed⟩
    have wl := wrong_len T
    have fl : (Str.ofString "field ").length = 6 := by decide +kernel
    walk_at "r"
    refine ⟨.ref b, rfl, rfl, rfl, d, _, _, rfl, ed, rfl, ?_⟩
    walk_at "r"
    refine ⟨_, _, rfl, rfl, Nat.le_trans (m := 100000) ?_ (by decide), ?_⟩
    · omega
    walk_at "r"
    refine s_isY Z.x_BadField.c hd Z.k_BadField_TooMany ?_
    walk_at "r"
    refine s_isY Z.x_BadField.c hd Z.k_BadField_BadGrid ?_
    walk_at "r"
    refine ⟨_, 0, rfl, rfl, mul_ok (by decide) (by decide) (by decide +kernel), ?_⟩
    refine ⟨_, _, rfl, rfl, Nat.le_trans (m := 100000) ?_ (by decide), ?_⟩
    · rw [mul_zero', len_app]
      show _ + 0 ≤ _
      omega
    rw [bang0]
    exact qf _ hw s1
  · refine ⟨false, Z.x_BadField.exm Z.s_TooMany_BadField, (by intro q; cases q), fun _ => ⟨true, Z.x_TooMany.exm Z.s_TooMany_TooMany, fun _ b hb => ?_, fun q => nomatch q⟩⟩
    have hd : (some d = none) ∨ ∃ dd fs, some d = some dd ∧ H1 dd = some (HO.xd fs) := .inr ⟨d, _, rfl, ed⟩
    have fl : (Str.ofString "many ").length = 5 := by decide +kernel
    have fl2 : (Str.ofString (toString (2000 : Int))).length = 4 := by decide +kernel
    have fl3 : Str.ofString "many " ++ Str.ofString (toString (2000 : Int)) = Str.ofString "many 2000" := by decide +kernel
    walk_at "r"
    refine ⟨.ref b, rfl, rfl, rfl, d, _, _, rfl, ed, rfl, ?_⟩
    walk_at "r"
    refine ⟨2000, rfl, by decide, ?_⟩
    walk_at "r"
    refine ⟨_, _, rfl, rfl, Nat.le_trans (m := 100000) ?_ (by decide), ?_⟩
    · omega
    rw [fl3]
    walk_at "r"
    refine s_isY Z.x_TooMany.c hd Z.k_TooMany_BadGrid ?_
    walk_at "r"
    refine s_isYt Z.x_TooMany.c hd Z.v_TooMany ?_
    walk_at "r"
    refine ⟨_, 0, rfl, rfl, mul_ok (by decide) (by decide) (by decide +kernel), ?_⟩
    refine ⟨_, _, rfl, rfl, Nat.le_trans (m := 100000) ?_ (by decide), ?_⟩
    · rw [mul_zero']
      exact (by decide +kernel : (Str.ofString "many 2000").length + Str.empty.length ≤ 100000)
    rw [bang0]
    exact qm _ hw hp s1
abbrev s_law_right : Stmt := topS 27
theorem sc_law_right : FnScope ["_law_things_here", "_law_is_tuple", "_law_layers_here", "_law_wrong_here", "_law_due", "_law_made_here", "_law_told"] ["_law_things_here", "_law_is_tuple"] (defScope s_law_right) := ⟨rfl, rfl, rfl, by decide +kernel, rfl, by decide +kernel, by decide +kernel⟩
def Ok_law_right (P : Program) (w : World) (K : PySem.W.Frag) (mg : Str → Option Value) (base : Heap) : Prop := ∃ fA fd, Fn P w K mg base (L2.CX P w) 9 "_law_right" s_law_right fA fd ["_law_things_here", "_law_is_tuple"] (sp_law_right K mg)
theorem okx_law_right (Z : Zs K mg) {fA : Addr} {fd : FuncData} (F : Fun K "_law_right" "_law_right" s_law_right fA fd) (m : mg "_law_right" = some (.ref fA)) (C_Setting_rect : Ok_Setting_rect P w K mg base) (C_law_made : Ok_law_made P w K mg base) (C_law_pieces : Ok_law_pieces P w K mg base) (C_law_wrong : Ok_law_wrong P w K mg base) : Fn P w K mg base (L2.CX P w) 9 "_law_right" s_law_right fA fd ["_law_things_here", "_law_is_tuple"] (sp_law_right K mg) := by
  obtain ⟨_, _, _, C_Setting_rect, M_Setting_rect⟩ := C_Setting_rect
  obtain ⟨_, _, C_law_made⟩ := C_law_made
  obtain ⟨_, _, C_law_pieces⟩ := C_law_pieces
  obtain ⟨_, _, C_law_wrong⟩ := C_law_wrong
  refine ⟨F.okX sc_law_right (fun vs H Q E h => h.1) (fun cdv A outer s H vs Q E hr h => ?_), m, F.kp, F.binds fun _ _ _ _ _ _ us hl => match us, hl with | [_, _], _ => rfl, F⟩
  have hu64 := hr.units
  obtain ⟨hlen, h⟩ := h
  refine ⟨_, (pss_cons (ps_par (i := 2) (j := 3) (by rfl) sc_law_right.nd rfl rfl (by decide) rfl rfl (pa_cons (pe_callTy call_list_of (by rfl) Z.z_list (by decide +kernel) (pa_cons (pe_ix (i_list K rfl) (pv 0) pe_int (fun _ _ => rfl)) pa_nil)) (pa_cons (pe_call C_law_wrong.G (hr.mono (by decide)) rfl C_law_wrong.m C_law_wrong.kp C_law_wrong.b .nil passL (pa_cons (pv 0) pa_nil)) pa_nil)) (by rfl))
    (pss_cons (ps_set (i := 4) sc_law_right.nd rfl (Or.inl rfl) (pe_ifExp (pt_cmpR op_ne (pv 3) pe_str (nomark _)) (pe_op op_add_str pe_str (pv 3)) pe_str))
    (pss_cons (ps_if (PW.pt (pw_and (pt_cmpR op_eq (pv 4) pe_str (nomark _)) (pw_and1 (pt_cmpR op_gt (pe_call C_law_pieces.G (hr.mono (by decide)) rfl C_law_pieces.m C_law_pieces.kp C_law_pieces.b .nil passL (pa_cons (pv 0) pa_nil)) pe_int (nomark _)))))
      (pss_one (ps_set (i := 4) sc_law_right.nd rfl (Or.inl rfl) pe_str))
      pss_nil)
    (pss_cons (ps_set (i := 5) sc_law_right.nd rfl (Or.inl rfl) (pe_call C_law_made.G (hr.mono (by decide)) rfl C_law_made.m C_law_made.kp C_law_made.b .nil passL (pa_cons (pv 0) (pa_cons (pe_ifExp (pt_truth (pv 1) (by intro _; rfl)) (pe_callTy call_tuple_of (by rfl) Z.z_tuple (by decide +kernel) (pa_cons (pv 2) pa_nil)) (pv 2)) pa_nil))))
    (pss_cons (ps_if (pt_cmpR op_ne (pv 4) pe_str (nomark _))
      (pss_one (ps_ret (pe_cmpR op_eq (pv 5) (pv 4) (nomark _))))
      pss_nil)
    (pss_cons (ps_if (pt_val (pe_callB (c_isi K rfl) (by rfl) Z.z_isinstance (by decide +kernel) (pa_cons (pv 5) (pa_cons (pe_bltn (v := .ty "str") (by rfl) Z.z_str (by decide +kernel) rfl) pa_nil))))
      (pss_one (ps_ret pe_bl))
      pss_nil)
    (pss_cons (ps_expr (pe_bm PySem.F.plainAttrs_list PySem.F.slot_list_append PySem.F.type_list_append mt_append (pv 2) (pa_cons pe_int pa_nil)))
    (pss_cons (ps_if (PW.pt (pw_or (pt_not (pt_val (pe_callB (c_isi K rfl) (by rfl) Z.z_isinstance (by decide +kernel) (pa_cons (pe_prop (pv 5) Z.o_Setting.cl M_Setting_rect C_Setting_rect.G (hr.mono (by decide)) C_Setting_rect.b .nil passL rfl) (pa_cons (pe_bltn (v := .ty "tuple") (by rfl) Z.z_tuple (by decide +kernel) rfl) pa_nil))))) (pw_or (pt_not (pt_val (pe_callB (c_isi K rfl) (by rfl) Z.z_isinstance (by decide +kernel) (pa_cons (pe_fld (pv 5) rfl) (pa_cons (pe_bltn (v := .ty "tuple") (by rfl) Z.z_tuple (by decide +kernel) rfl) pa_nil))))) (pw_or1 (pt_cmpR (o_neD K rfl hu64) (pe_fld (pv 5) rfl) (pe_callTy call_tuple_of (by rfl) Z.z_tuple (by decide +kernel) (pa_cons (pe_ix (i_list K rfl) (pv 0) pe_int (fun _ _ => rfl)) pa_nil)) (nomark _))))))
      (pss_one (ps_ret pe_bl))
      pss_nil)
    (pss_cons (ps_set (i := 6) sc_law_right.nd rfl (Or.inl rfl) (pe_lst (pa_cons (pe_prop (pv 5) Z.o_Setting.cl M_Setting_rect C_Setting_rect.G (hr.mono (by decide)) C_Setting_rect.b .nil passL rfl) (pa_cons (pe_fld (pv 5) rfl) (pa_cons (pe_fld (pv 5) rfl) (pa_cons (pe_fld (pv 5) rfl) (pa_cons (pe_fld (pv 5) rfl) (pa_cons (pe_fld (pv 5) rfl) (pa_cons (pe_fld (pv 5) rfl) pa_nil)))))))))
    (pss_one (ps_ret (pe_cmpR (o_eqD K rfl hu64) (pv 6) (pe_op op_cat (pe_slice (l_list K rfl) (pv 0) po_none (po_some pe_int)) (pe_lst (pa_cons (pe_ix (i_list K rfl) (pv 0) pe_int (fun _ _ => rfl)) pa_nil))) (nomark _))))))))))))), ?_⟩
  obtain ⟨a, r, l, T, b, rfl, hO, hB, q⟩ := h
  have wl := wrong_len T
  have fl : (Str.ofString "field ").length = 6 := by decide +kernel
  walk_at "r"
  refine s_ixL (.of hO.a) th6 ?_
  walk_at "r"
  refine ⟨l, _, rfl, .inl (.of hO.l), fun l2 hl2 => ?_⟩
  have k1 := (Stp.new (S := S0) (o := .lst (T.layers.map V.int)) (Same.refl H) hl2).same
  have e1 : upd H l2 (.lst (T.layers.map V.int)) l2 = some (.lst (T.layers.map V.int)) := upd_same
  generalize upd H l2 (.lst (T.layers.map V.int)) = H1 at k1 e1 ⊢
  walk_at "r"
  refine ⟨rfl, a, r, l, T, rfl, hO.mono k1, hB, fun H2 k2' => ?_⟩
  have k2 := k1.trans k2'
  replace e1 := k2' _ _ e1
  clear k1 k2'
  walk_at "r"
  refine ifn (fun hw => ?_) (fun hw => ?_)
  rotate_left
  · walk_at "r"
    refine ⟨_, _, rfl, rfl, Nat.le_trans (m := 100000) ?_ (by decide), ?_⟩
    · omega
    have hne : ¬ (Str.ofString "field " ++ wrong T = Str.ofString "") := fun z => by
      have := congrArg Str.length z
      rw [len_app, fl, show (Str.ofString "").length = 0 by decide +kernel] at this
      omega
    walk_at "r"
    refine ifd (fun hz => absurd hz hne) (fun _ => ?_)
    walk_at "r"
    cases b with
    | true =>
      refine ⟨true, rfl, ?_⟩
      walk_at "r"
      refine ⟨l2, _, rfl, .inl ⟨.of e1, fun l3 hl3 => ?_⟩⟩
      have km := (Stp.new (S := S0) (o := .tup (T.layers.map V.int)) (Same.refl H2) hl3).same
      have e3 : upd H2 l3 (.tup (T.layers.map V.int)) l3 = some (.tup (T.layers.map V.int)) := upd_same
      have kmm := (k2).trans km
      replace e1 := km _ _ e1
      generalize upd H2 l3 _ = Hm at km e3 kmm e1 ⊢
      walk_at "r"
      refine ⟨rfl, a, r, l, l3, T, rfl, hO.mono kmm, (.inr (.of e3)), hB, fun H9 _ k9 => ?_, fun H9 hw' => absurd hw' hw, fun _ _ _ _ H9 hw' => absurd hw' hw⟩
      walk_at "r"
      refine ifn (fun hz => absurd hz hne) (fun _ => ?_)
      walk_at "r"
      exact blq (Q := Q) (q _ (kmm.trans k9)) (by simp)
    | false =>
      refine ⟨false, rfl, ?_⟩
      walk_at "r"
      have kmm := k2
      replace e1 := e1
      refine ⟨rfl, a, r, l, l2, T, rfl, hO.mono kmm, (.inl (.of e1)), hB, fun H9 _ k9 => ?_, fun H9 hw' => absurd hw' hw, fun _ _ _ _ H9 hw' => absurd hw' hw⟩
      walk_at "r"
      refine ifn (fun hz => absurd hz hne) (fun _ => ?_)
      walk_at "r"
      exact blq (Q := Q) (q _ (kmm.trans k9)) (by simp)
  · have g := good_of hw
    walk_at "r"
    refine ifd (fun _ => ?_) (fun hz => absurd rfl hz)
    walk_at "r"
    refine ⟨rfl, a, r, l, T, rfl, hO.mono k2, hB, g, fun H3 k3' => ?_⟩
    have k3 := k2.trans k3'
    replace e1 := k3' _ _ e1
    walk_at "r"
    refine ifd (fun hbig => ?_) (fun hbig => ?_)
    · walk_at "r"
      have hne : ¬ (Str.ofString "many 2000" = Str.ofString "") := by decide +kernel
      cases b with
      | true =>
        refine ⟨true, rfl, ?_⟩
        walk_at "r"
        refine ⟨l2, _, rfl, .inl ⟨.of e1, fun l3 hl3 => ?_⟩⟩
        have km := (Stp.new (S := S0) (o := .tup (T.layers.map V.int)) (Same.refl H3) hl3).same
        have e3 : upd H3 l3 (.tup (T.layers.map V.int)) l3 = some (.tup (T.layers.map V.int)) := upd_same
        have kmm := (k3).trans km
        replace e1 := km _ _ e1
        generalize upd H3 l3 _ = Hm at km e3 kmm e1 ⊢
        walk_at "r"
        refine ⟨rfl, a, r, l, l3, T, rfl, hO.mono kmm, (.inr (.of e3)), hB, fun H9 hw' => absurd hw hw', fun H9 _ _ k9 => ?_, fun _ _ _ _ H9 _ hp => absurd hbig hp⟩
        walk_at "r"
        refine ifn (fun hz => absurd hz hne) (fun _ => ?_)
        walk_at "r"
        exact blq (Q := Q) (q _ (kmm.trans k9)) (by simp)
      | false =>
        refine ⟨false, rfl, ?_⟩
        walk_at "r"
        have kmm := k3
        replace e1 := e1
        refine ⟨rfl, a, r, l, l2, T, rfl, hO.mono kmm, (.inl (.of e1)), hB, fun H9 hw' => absurd hw hw', fun H9 _ _ k9 => ?_, fun _ _ _ _ H9 _ hp => absurd hbig hp⟩
        walk_at "r"
        refine ifn (fun hz => absurd hz hne) (fun _ => ?_)
        walk_at "r"
        exact blq (Q := Q) (q _ (kmm.trans k9)) (by simp)
    · walk_at "r"
      cases b with
      | true =>
        refine ⟨true, rfl, ?_⟩
        walk_at "r"
        refine ⟨l2, _, rfl, .inl ⟨.of e1, fun l3 hl3 => ?_⟩⟩
        have km := (Stp.new (S := S0) (o := .tup (T.layers.map V.int)) (Same.refl H3) hl3).same
        have e3 : upd H3 l3 (.tup (T.layers.map V.int)) l3 = some (.tup (T.layers.map V.int)) := upd_same
        have kmm := (k3).trans km
        replace e1 := km _ _ e1
        generalize upd H3 l3 _ = Hm at km e3 kmm e1 ⊢
        walk_at "r"
        refine ⟨rfl, a, r, l, l3, T, rfl, hO.mono kmm, (.inr (.of e3)), hB, fun H9 hw' => absurd hw hw', fun H9 _ hp => absurd hp hbig, fun p' dx r' l' H9 _ _ k9 hS => ?_⟩
        have k9' := kmm.trans k9
        replace e1 := k9 _ _ e1
        walk_at "r"
        refine ifn (fun _ => ?_) (fun hz => absurd rfl hz)
        walk_at "r"
        refine s_isO hS.o Z.o_Setting.cl Z.i_Setting_str ?_
        walk_at "r"
        refine ⟨.inl ⟨rfl, _, SqL.of e1⟩, ?_⟩
        walk_at "r"
        refine ⟨l2, _, _, rfl, rfl, e1, Nat.lt_of_le_of_lt (by rw [List.length_map]; exact Nat.le_of_lt hB.l : (T.layers.map V.int).length ≤ 64) (by decide), ?_⟩
        have hS2 := hS.wr (o := .lst (T.layers.map V.int ++ [V.int 7])) e1
        have k10 : Same H (upd H9 l2 (.lst (T.layers.map V.int ++ [V.int 7]))) := fun b' o' e' => by
          rw [upd_ne (ne_of_none e' hl2)]; exact k9' _ _ e'
        generalize upd H9 l2 _ = H10 at hS2 k10 ⊢
        clear e1 k9 k9' hS kmm
        have hO2 := hO.mono k10
        walk_at "r"
        refine ⟨p', dx, _, rfl, hS2.o, rfl, p', dx, r', l', T, rfl, hS2, ?_⟩
        walk_at "r"
        refine s_isi (b := true) (.base (.tup hS2.r)) (by decide +kernel) ?_
        walk_at "r"
        refine ⟨p', _, dx, _, _, rfl, hS2.o, Z.o_Setting.cl, Z.n_Setting_layers, rfl, ?_⟩
        walk_at "r"
        refine s_isi (b := true) (ty_tup hS2.l) (by decide +kernel) ?_
        walk_at "r"
        refine ⟨p', _, dx, _, _, rfl, hS2.o, Z.o_Setting.cl, Z.n_Setting_layers, rfl, ?_⟩
        walk_at "r"
        refine s_ixL (.of hO2.a) th6 ?_
        walk_at "r"
        refine ⟨l, _, rfl, .inl ⟨.of hO2.l, fun l5 hl5 => ?_⟩⟩
        have k5 := (Stp.new (S := S0) (o := .tup (T.layers.map V.int)) (Same.refl H10) hl5).same
        have e5 : upd H10 l5 (.tup (T.layers.map V.int)) l5 = some (.tup (T.layers.map V.int)) := upd_same
        generalize upd H10 l5 _ = H11 at k5 e5 ⊢
        walk_at "r"
        refine s_neT (ns := T.layers) (ms := T.layers) (seqT' k5 hS2.l) (.of e5) ?_
        have hS3 := hS2.mono k5
        have hO3 := hO2.mono k5
        have k11 := k10.trans k5
        clear hS2 hO2 k10 k5 e5
        walk_at "r"
        refine ifn (fun _ => ?_) (fun hz => absurd rfl hz)
        walk_at "r"
        refine ⟨p', dx, _, rfl, hS3.o, rfl, p', dx, r', l', T, rfl, hS3, ?_⟩
        walk_at "r"
        refine ⟨p', _, dx, _, _, rfl, hS3.o, Z.o_Setting.cl, Z.n_Setting_mode, rfl, ?_⟩
        walk_at "r"
        refine ⟨p', _, dx, _, _, rfl, hS3.o, Z.o_Setting.cl, Z.n_Setting_tx, rfl, ?_⟩
        walk_at "r"
        refine ⟨p', _, dx, _, _, rfl, hS3.o, Z.o_Setting.cl, Z.n_Setting_ty, rfl, ?_⟩
        walk_at "r"
        refine ⟨p', _, dx, _, _, rfl, hS3.o, Z.o_Setting.cl, Z.n_Setting_word, rfl, ?_⟩
        walk_at "r"
        refine ⟨p', _, dx, _, _, rfl, hS3.o, Z.o_Setting.cl, Z.n_Setting_planes, rfl, ?_⟩
        walk_at "r"
        refine ⟨p', _, dx, _, _, rfl, hS3.o, Z.o_Setting.cl, Z.n_Setting_order, rfl, ?_⟩
        walk_at "r"
        refine ⟨sz (by simp), fun q1 hq1 => ?_⟩
        have k6 := (Stp.new (S := S0) (o := .lst [.ref r', .int T.mode, .int T.tx, .int T.ty, .str T.word, .int T.planes, .str T.order]) (Same.refl H11) hq1).same
        have e6 : upd H11 q1 (.lst [.ref r', .int T.mode, .int T.tx, .int T.ty, .str T.word, .int T.planes, .str T.order]) q1 = some (.lst [.ref r', .int T.mode, .int T.tx, .int T.ty, .str T.word, .int T.planes, .str T.order]) := upd_same
        generalize upd H11 q1 _ = H12 at k6 e6 ⊢
        have hr' := k6 _ _ hS3.r
        have hO4 := hO3.mono k6
        have k12 := k11.trans k6
        clear hS3 hO3 k6 k11
        walk_at "r"
        refine s_slL (.of hO4.a) fun q2 hq2 => ?_
        rw [th_cut]
        have k7 := (Stp.new (S := S0) (o := .lst [.ref r, .int T.mode, .int T.tx, .int T.ty, .str T.word, .int T.planes]) (Same.refl H12) hq2).same
        have e7 : upd H12 q2 (.lst [.ref r, .int T.mode, .int T.tx, .int T.ty, .str T.word, .int T.planes]) q2 = some (.lst [.ref r, .int T.mode, .int T.tx, .int T.ty, .str T.word, .int T.planes]) := upd_same
        generalize upd H12 q2 _ = H13 at k7 e7 ⊢
        replace e6 := k7 _ _ e6
        replace hr' := k7 _ _ hr'
        have hO5 := hO4.mono k7
        have k13 := k12.trans k7
        clear hO4 k12 k7
        walk_at "r"
        refine s_ixL (.of hO5.a) th7 ?_
        walk_at "r"
        refine ⟨sz (by simp), fun q3 hq3 => ?_⟩
        have k8 := (Stp.new (S := S0) (o := .lst [.str T.order]) (Same.refl H13) hq3).same
        have e8 : upd H13 q3 (.lst [.str T.order]) q3 = some (.lst [.str T.order]) := upd_same
        generalize upd H13 q3 _ = H14 at k8 e8 ⊢
        walk_at "r"
        refine ⟨q2, q3, _, _, rfl, rfl, k8 _ _ e7, e8, sz (by simp), fun q4 hq4 => ?_⟩
        have k9 := k8.trans (Stp.new (S := S0) (o := .lst ([.ref r, .int T.mode, .int T.tx, .int T.ty, .str T.word, .int T.planes] ++ [.str T.order])) (Same.refl H14) hq4).same
        refine s_eqSame' (d := dS T) (.lst (.of (k9 _ _ e6)) (.cons (.tup (.of (k9 _ _ hr')) (.cons (.int _) (.cons (.int _) (.cons (.int _) (.cons (.int _) .nil))))) (.cons (.int _) (.cons (.int _) (.cons (.int _) (.cons (.str _) (.cons (.int _) (.cons (.str _) .nil)))))))) (.lst (.of upd_same) (.cons (.tup (.of (k9 _ _ hO5.r)) (.cons (.int _) (.cons (.int _) (.cons (.int _) (.cons (.int _) .nil))))) (.cons (.int _) (.cons (.int _) (.cons (.int _) (.cons (.str _) (.cons (.int _) (.cons (.str _) .nil)))))))) (shaped_dS hB) ?_
        exact q _ (k13.trans k9)
      | false =>
        refine ⟨false, rfl, ?_⟩
        walk_at "r"
        have kmm := k3
        replace e1 := e1
        refine ⟨rfl, a, r, l, l2, T, rfl, hO.mono kmm, (.inl (.of e1)), hB, fun H9 hw' => absurd hw hw', fun H9 _ hp => absurd hp hbig, fun p' dx r' l' H9 _ _ k9 hS => ?_⟩
        have k9' := kmm.trans k9
        replace e1 := k9 _ _ e1
        walk_at "r"
        refine ifn (fun _ => ?_) (fun hz => absurd rfl hz)
        walk_at "r"
        refine s_isO hS.o Z.o_Setting.cl Z.i_Setting_str ?_
        walk_at "r"
        refine ⟨.inl ⟨rfl, _, SqL.of e1⟩, ?_⟩
        walk_at "r"
        refine ⟨l2, _, _, rfl, rfl, e1, Nat.lt_of_le_of_lt (by rw [List.length_map]; exact Nat.le_of_lt hB.l : (T.layers.map V.int).length ≤ 64) (by decide), ?_⟩
        have hS2 := hS.wr (o := .lst (T.layers.map V.int ++ [V.int 7])) e1
        have k10 : Same H (upd H9 l2 (.lst (T.layers.map V.int ++ [V.int 7]))) := fun b' o' e' => by
          rw [upd_ne (ne_of_none e' hl2)]; exact k9' _ _ e'
        generalize upd H9 l2 _ = H10 at hS2 k10 ⊢
        clear e1 k9 k9' hS kmm
        have hO2 := hO.mono k10
        walk_at "r"
        refine ⟨p', dx, _, rfl, hS2.o, rfl, p', dx, r', l', T, rfl, hS2, ?_⟩
        walk_at "r"
        refine s_isi (b := true) (.base (.tup hS2.r)) (by decide +kernel) ?_
        walk_at "r"
        refine ⟨p', _, dx, _, _, rfl, hS2.o, Z.o_Setting.cl, Z.n_Setting_layers, rfl, ?_⟩
        walk_at "r"
        refine s_isi (b := true) (ty_tup hS2.l) (by decide +kernel) ?_
        walk_at "r"
        refine ⟨p', _, dx, _, _, rfl, hS2.o, Z.o_Setting.cl, Z.n_Setting_layers, rfl, ?_⟩
        walk_at "r"
        refine s_ixL (.of hO2.a) th6 ?_
        walk_at "r"
        refine ⟨l, _, rfl, .inl ⟨.of hO2.l, fun l5 hl5 => ?_⟩⟩
        have k5 := (Stp.new (S := S0) (o := .tup (T.layers.map V.int)) (Same.refl H10) hl5).same
        have e5 : upd H10 l5 (.tup (T.layers.map V.int)) l5 = some (.tup (T.layers.map V.int)) := upd_same
        generalize upd H10 l5 _ = H11 at k5 e5 ⊢
        walk_at "r"
        refine s_neT (ns := T.layers) (ms := T.layers) (seqT' k5 hS2.l) (.of e5) ?_
        have hS3 := hS2.mono k5
        have hO3 := hO2.mono k5
        have k11 := k10.trans k5
        clear hS2 hO2 k10 k5 e5
        walk_at "r"
        refine ifn (fun _ => ?_) (fun hz => absurd rfl hz)
        walk_at "r"
        refine ⟨p', dx, _, rfl, hS3.o, rfl, p', dx, r', l', T, rfl, hS3, ?_⟩
        walk_at "r"
        refine ⟨p', _, dx, _, _, rfl, hS3.o, Z.o_Setting.cl, Z.n_Setting_mode, rfl, ?_⟩
        walk_at "r"
        refine ⟨p', _, dx, _, _, rfl, hS3.o, Z.o_Setting.cl, Z.n_Setting_tx, rfl, ?_⟩
        walk_at "r"
        refine ⟨p', _, dx, _, _, rfl, hS3.o, Z.o_Setting.cl, Z.n_Setting_ty, rfl, ?_⟩
        walk_at "r"
        refine ⟨p', _, dx, _, _, rfl, hS3.o, Z.o_Setting.cl, Z.n_Setting_word, rfl, ?_⟩
        walk_at "r"
        refine ⟨p', _, dx, _, _, rfl, hS3.o, Z.o_Setting.cl, Z.n_Setting_planes, rfl, ?_⟩
        walk_at "r"
        refine ⟨p', _, dx, _, _, rfl, hS3.o, Z.o_Setting.cl, Z.n_Setting_order, rfl, ?_⟩
        walk_at "r"
        refine ⟨sz (by simp), fun q1 hq1 => ?_⟩
        have k6 := (Stp.new (S := S0) (o := .lst [.ref r', .int T.mode, .int T.tx, .int T.ty, .str T.word, .int T.planes, .str T.order]) (Same.refl H11) hq1).same
        have e6 : upd H11 q1 (.lst [.ref r', .int T.mode, .int T.tx, .int T.ty, .str T.word, .int T.planes, .str T.order]) q1 = some (.lst [.ref r', .int T.mode, .int T.tx, .int T.ty, .str T.word, .int T.planes, .str T.order]) := upd_same
        generalize upd H11 q1 _ = H12 at k6 e6 ⊢
        have hr' := k6 _ _ hS3.r
        have hO4 := hO3.mono k6
        have k12 := k11.trans k6
        clear hS3 hO3 k6 k11
        walk_at "r"
        refine s_slL (.of hO4.a) fun q2 hq2 => ?_
        rw [th_cut]
        have k7 := (Stp.new (S := S0) (o := .lst [.ref r, .int T.mode, .int T.tx, .int T.ty, .str T.word, .int T.planes]) (Same.refl H12) hq2).same
        have e7 : upd H12 q2 (.lst [.ref r, .int T.mode, .int T.tx, .int T.ty, .str T.word, .int T.planes]) q2 = some (.lst [.ref r, .int T.mode, .int T.tx, .int T.ty, .str T.word, .int T.planes]) := upd_same
        generalize upd H12 q2 _ = H13 at k7 e7 ⊢
        replace e6 := k7 _ _ e6
        replace hr' := k7 _ _ hr'
        have hO5 := hO4.mono k7
        have k13 := k12.trans k7
        clear hO4 k12 k7
        walk_at "r"
        refine s_ixL (.of hO5.a) th7 ?_
        walk_at "r"
        refine ⟨sz (by simp), fun q3 hq3 => ?_⟩
        have k8 := (Stp.new (S := S0) (o := .lst [.str T.order]) (Same.refl H13) hq3).same
        have e8 : upd H13 q3 (.lst [.str T.order]) q3 = some (.lst [.str T.order]) := upd_same
        generalize upd H13 q3 _ = H14 at k8 e8 ⊢
        walk_at "r"
        refine ⟨q2, q3, _, _, rfl, rfl, k8 _ _ e7, e8, sz (by simp), fun q4 hq4 => ?_⟩
        have k9 := k8.trans (Stp.new (S := S0) (o := .lst ([.ref r, .int T.mode, .int T.tx, .int T.ty, .str T.word, .int T.planes] ++ [.str T.order])) (Same.refl H14) hq4).same
        refine s_eqSame' (d := dS T) (.lst (.of (k9 _ _ e6)) (.cons (.tup (.of (k9 _ _ hr')) (.cons (.int _) (.cons (.int _) (.cons (.int _) (.cons (.int _) .nil))))) (.cons (.int _) (.cons (.int _) (.cons (.int _) (.cons (.str _) (.cons (.int _) (.cons (.str _) .nil)))))))) (.lst (.of upd_same) (.cons (.tup (.of (k9 _ _ hO5.r)) (.cons (.int _) (.cons (.int _) (.cons (.int _) (.cons (.int _) .nil))))) (.cons (.int _) (.cons (.int _) (.cons (.int _) (.cons (.str _) (.cons (.int _) (.cons (.str _) .nil)))))))) (shaped_dS hB) ?_
        exact q _ (k13.trans k9)
abbrev s_law : Stmt := topS 28
theorem sc_law : FnScope ["_law_script", "_law_k", "_law_source", "_law_turn"] ["_law_script"] (defScope s_law) := ⟨rfl, rfl, rfl, by decide +kernel, rfl, by decide +kernel, by decide +kernel⟩
def Ok_law (P : Program) (w : World) (K : PySem.W.Frag) (mg : Str → Option Value) (base : Heap) : Prop := ∃ fA fd, Fn P w K mg base (L2.CX P w) 10 "law" s_law fA fd ["_law_script"] (sp_law K mg)
theorem okx_law (Z : Zs K mg) {fA : Addr} {fd : FuncData} (F : Fun K "law" "law" s_law fA fd) (m : mg "law" = some (.ref fA)) (C_law_right : Ok_law_right P w K mg base) (C_law_take : Ok_law_take P w K mg base) (C_law_things : Ok_law_things P w K mg base) (C_law_pool : Ok_law_pool P w K mg base) : Fn P w K mg base (L2.CX P w) 10 "law" s_law fA fd ["_law_script"] (sp_law K mg) := by
  obtain ⟨_, _, C_law_right⟩ := C_law_right
  obtain ⟨_, _, C_law_take⟩ := C_law_take
  obtain ⟨_, _, C_law_things⟩ := C_law_things
  obtain ⟨_, _, C_law_pool⟩ := C_law_pool
  refine ⟨F.okX sc_law (fun vs H Q E h => h.1) (fun cdv A outer s H vs Q E hr h => ?_), m, F.kp, F.binds fun _ _ _ _ _ _ us hl => match us, hl with | [_], _ => rfl, F⟩
  have hu64 := hr.units
  obtain ⟨hlen, h⟩ := h
  refine ⟨_, (pss_cons (ps_for (passes_of rfl) rfl (pi_range1 rfl Z.z_range (pa_cons (pe_callB (c_max2 rfl) (by rfl) Z.z_max (by decide +kernel) (pa_cons pe_int (pa_cons (pe_callB (c_min2 rfl) (by rfl) Z.z_min (by decide +kernel) (pa_cons (pe_callB (c_len K rfl) (by rfl) Z.z_len (by decide +kernel) (pa_cons (pv 0) pa_nil)) (pa_cons pe_int pa_nil))) pa_nil))) pa_nil)) (pg_name (i := 1) sc_law.nd rfl (Or.inl rfl))
      (pss_cons (ps_set (i := 2) sc_law.nd rfl (Or.inl rfl) (pe_call C_law_pool.G (hr.mono (by decide)) rfl C_law_pool.m C_law_pool.kp C_law_pool.b .nil passL (pa_cons (pv 0) (pa_cons (pv 1) pa_nil))))
    (pss_one (ps_for (passes_of rfl) rfl (pi_range1 rfl Z.z_range (pa_cons pe_int pa_nil)) (pg_name (i := 3) sc_law.nd rfl (Or.inl rfl))
      (pss_one (ps_if (pt_not (pt_val (pe_call C_law_right.G (hr.mono (by decide)) rfl C_law_right.m C_law_right.kp C_law_right.b .nil passL (pa_cons (pe_call C_law_things.G (hr.mono (by decide)) rfl C_law_things.m C_law_things.kp C_law_things.b .nil passL (pa_cons (pv 2) pa_nil)) (pa_cons (pe_cmpR op_eq (pe_call C_law_take.G (hr.mono (by decide)) rfl C_law_take.m C_law_take.kp C_law_take.b .nil passL (pa_cons (pv 2) (pa_cons pe_int pa_nil))) pe_int (nomark _)) pa_nil)))))
      (pss_one (ps_ret pe_bl))
      pss_nil))))))
    (pss_one (ps_ret pe_bl))), ?_⟩
  obtain ⟨sc, ns, rfl, hS, hl, q⟩ := h
  walk_at "r"
  refine ⟨_, rfl, by split <;> omega, by split <;> omega, ?_⟩
  refine forR (fun i σ H' => ∃ v1 v2 v3, σ = [some (.ref sc), v1, v2, v3] ∧ Same H H') ⟨_, _, _, rfl, Same.refl H⟩ ?_ ?_
  · rintro i σ H1 hi ⟨v1, v2, v3, rfl, e1⟩
    walk_at "r"
    refine ⟨rfl, sc, ns, _, rfl, e1.seq hS, by omega, ?_, fun p H2 s2 => ?_⟩
    · have : i < 21 := Nat.lt_of_lt_of_le hi (by split <;> omega)
      omega
    walk_at "r"
    refine ⟨_, rfl, by decide, by decide, ?_⟩
    refine forR (fun i' σ H' => ∃ v3, σ = [some (.ref sc), some (.int (0 + (i : Int))), some (.ref p), v3] ∧ Src H1 H' p) ⟨_, rfl, s2⟩ ?_ ?_
    · rintro i' σ H3 hi' ⟨v3, rfl, s3⟩
      walk_at "r"
      refine ⟨rfl, H1, p, rfl, s3, fun a r l T F4 H4 s4 t4 hO hB => ?_⟩
      walk_at "r"
      refine ⟨rfl, F4, p, _, rfl, s4, by omega, by omega, fun k H5 s5 t5 k0 k1 => ?_⟩
      walk_at "r"
      refine ⟨rfl, a, r, l, T, _, rfl, hO.mono s5.1, hB, fun H6 k6 => ?_⟩
      walk_at "r"
      exact ⟨_, rfl, (s5.of k6).weak t4.ff⟩
    · rintro σ H3 ⟨v3, rfl, s3⟩
      walk_at "r"
      exact ⟨_, _, _, rfl, e1.trans s3.1⟩
  · rintro σ H1 ⟨v1, v2, v3, rfl, e1⟩
    walk_at "r"
    exact q _
end
theorem all_mk {l : PySem.W.OpenLaw} {w : World} {K : PySem.W.Frag} {h : Heap} {mg : Str → Option Value} {fa : Addr} (X : K.In h) (G : h.Ns mainGlobals mg) (hfa : mg "law" = some (.ref fa))
    {f0 : Addr} {od0 an0 : Option Addr} {sl0 : Array (Option Value)} {oc0 kV0 dc0 pm0  ct0 : Value}
    {cc0 cda0 : Addr} (l0 : K.lookup f0 = some ⟨oc0, od0, .func (PySem.W.ksFn "__init__" "BadField.__init__" (defArgs s_BadField___init__) (defBody s_BadField___init__) (defScope s_BadField___init__) .none kV0 dc0 pm0 an0 (.ref cda0) ct0 cc0), sl0⟩) (c0 : PySem.W.codeIn K (.ref cda0) "BadField.__init__" = true)
    {f1 : Addr} {od1 an1 : Option Addr} {sl1 : Array (Option Value)} {oc1 kV1 dc1 pm1  ct1 : Value}
    {cc1 cda1 : Addr} (l1 : K.lookup f1 = some ⟨oc1, od1, .func (PySem.W.ksFn "__init__" "TooMany.__init__" (defArgs s_TooMany___init__) (defBody s_TooMany___init__) (defScope s_TooMany___init__) .none kV1 dc1 pm1 an1 (.ref cda1) ct1 cc1), sl1⟩) (c1 : PySem.W.codeIn K (.ref cda1) "TooMany.__init__" = true)
    {f2 : Addr} {od2 an2 : Option Addr} {sl2 : Array (Option Value)} {oc2 kV2 dc2 pm2 cd2 ct2 : Value}
    (a2 : PySem.W.nsIn K mainGlobals "is_word" = some (some (.ref f2))) (l2 : K.lookup f2 = some ⟨oc2, od2, .func (PySem.W.fnOf "is_word" "is_word" (defArgs s_is_word) (defBody s_is_word) (defScope s_is_word) .none kV2 dc2 pm2 an2 cd2 ct2), sl2⟩) (c2 : PySem.W.codeIn K cd2 "is_word" = true) (k2 : PySem.W.keepIn K (.ref f2) = true)
    {f3 : Addr} {od3 an3 : Option Addr} {sl3 : Array (Option Value)} {oc3 kV3 dc3 pm3 cd3 ct3 : Value}
    (a3 : PySem.W.nsIn K mainGlobals "are_layers" = some (some (.ref f3))) (l3 : K.lookup f3 = some ⟨oc3, od3, .func (PySem.W.fnOf "are_layers" "are_layers" (defArgs s_are_layers) (defBody s_are_layers) (defScope s_are_layers) .none kV3 dc3 pm3 an3 cd3 ct3), sl3⟩) (c3 : PySem.W.codeIn K cd3 "are_layers" = true) (k3 : PySem.W.keepIn K (.ref f3) = true)
    {f4 : Addr} {od4 an4 : Option Addr} {sl4 : Array (Option Value)} {oc4 kV4 dc4 pm4 cd4 ct4 : Value}
    (a4 : PySem.W.nsIn K mainGlobals "is_side" = some (some (.ref f4))) (l4 : K.lookup f4 = some ⟨oc4, od4, .func (PySem.W.fnOf "is_side" "is_side" (defArgs s_is_side) (defBody s_is_side) (defScope s_is_side) .none kV4 dc4 pm4 an4 cd4 ct4), sl4⟩) (c4 : PySem.W.codeIn K cd4 "is_side" = true) (k4 : PySem.W.keepIn K (.ref f4) = true)
    {f5 : Addr} {od5 an5 : Option Addr} {sl5 : Array (Option Value)} {oc5 kV5 dc5 pm5 cd5 ct5 : Value}
    (l5 : K.lookup f5 = some ⟨oc5, od5, .func (PySem.W.fnOf "__init__" "Setting.__init__" (defArgs s_Setting___init__) (defBody s_Setting___init__) (defScope s_Setting___init__) .none kV5 dc5 pm5 an5 cd5 ct5), sl5⟩) (c5 : PySem.W.codeIn K cd5 "Setting.__init__" = true) (k5 : PySem.W.keepIn K (.ref f5) = true)
    {f6 : Addr} {od6 an6 : Option Addr} {sl6 : Array (Option Value)} {oc6 kV6 dc6 pm6 cd6 ct6 : Value}
    (l6 : K.lookup f6 = some ⟨oc6, od6, .func (PySem.W.fnOf "rect" "Setting.rect" (defArgs s_Setting_rect) (defBody s_Setting_rect) (defScope s_Setting_rect) .none kV6 dc6 pm6 an6 cd6 ct6), sl6⟩) (c6 : PySem.W.codeIn K cd6 "Setting.rect" = true) (k6 : PySem.W.keepIn K (.ref f6) = true)
    {f7 : Addr} {od7 an7 : Option Addr} {sl7 : Array (Option Value)} {oc7 kV7 dc7 pm7 cd7 ct7 : Value}
    (a7 : PySem.W.nsIn K mainGlobals "channel_count" = some (some (.ref f7))) (l7 : K.lookup f7 = some ⟨oc7, od7, .func (PySem.W.fnOf "channel_count" "channel_count" (defArgs s_channel_count) (defBody s_channel_count) (defScope s_channel_count) .none kV7 dc7 pm7 an7 cd7 ct7), sl7⟩) (c7 : PySem.W.codeIn K cd7 "channel_count" = true) (k7 : PySem.W.keepIn K (.ref f7) = true)
    {f8 : Addr} {od8 an8 : Option Addr} {sl8 : Array (Option Value)} {oc8 kV8 dc8 pm8 cd8 ct8 : Value}
    (a8 : PySem.W.nsIn K mainGlobals "tile_spans" = some (some (.ref f8))) (l8 : K.lookup f8 = some ⟨oc8, od8, .func (PySem.W.fnOf "tile_spans" "tile_spans" (defArgs s_tile_spans) (defBody s_tile_spans) (defScope s_tile_spans) .none kV8 dc8 pm8 an8 cd8 ct8), sl8⟩) (c8 : PySem.W.codeIn K cd8 "tile_spans" = true) (k8 : PySem.W.keepIn K (.ref f8) = true)
    {f9 : Addr} {od9 an9 : Option Addr} {sl9 : Array (Option Value)} {oc9 kV9 dc9 pm9 cd9 ct9 : Value}
    (a9 : PySem.W.nsIn K mainGlobals "line_count" = some (some (.ref f9))) (l9 : K.lookup f9 = some ⟨oc9, od9, .func (PySem.W.fnOf "line_count" "line_count" (defArgs s_line_count) (defBody s_line_count) (defScope s_line_count) .none kV9 dc9 pm9 an9 cd9 ct9), sl9⟩) (c9 : PySem.W.codeIn K cd9 "line_count" = true) (k9 : PySem.W.keepIn K (.ref f9) = true)
    {f10 : Addr} {od10 an10 : Option Addr} {sl10 : Array (Option Value)} {oc10 kV10 dc10 pm10 cd10 ct10 : Value}
    (a10 : PySem.W.nsIn K mainGlobals "piece_count" = some (some (.ref f10))) (l10 : K.lookup f10 = some ⟨oc10, od10, .func (PySem.W.fnOf "piece_count" "piece_count" (defArgs s_piece_count) (defBody s_piece_count) (defScope s_piece_count) .none kV10 dc10 pm10 an10 cd10 ct10), sl10⟩) (c10 : PySem.W.codeIn K cd10 "piece_count" = true) (k10 : PySem.W.keepIn K (.ref f10) = true)
    {f11 : Addr} {od11 an11 : Option Addr} {sl11 : Array (Option Value)} {oc11 kV11 dc11 pm11 cd11 ct11 : Value}
    (a11 : PySem.W.nsIn K mainGlobals "_law_pool" = some (some (.ref f11))) (l11 : K.lookup f11 = some ⟨oc11, od11, .func (PySem.W.fnOf "_law_pool" "_law_pool" (defArgs s_law_pool) (defBody s_law_pool) (defScope s_law_pool) .none kV11 dc11 pm11 an11 cd11 ct11), sl11⟩) (c11 : PySem.W.codeIn K cd11 "_law_pool" = true) (k11 : PySem.W.keepIn K (.ref f11) = true)
    {f12 : Addr} {od12 an12 : Option Addr} {sl12 : Array (Option Value)} {oc12 kV12 dc12 pm12 cd12 ct12 : Value}
    (a12 : PySem.W.nsIn K mainGlobals "_law_take" = some (some (.ref f12))) (l12 : K.lookup f12 = some ⟨oc12, od12, .func (PySem.W.fnOf "_law_take" "_law_take" (defArgs s_law_take) (defBody s_law_take) (defScope s_law_take) .none kV12 dc12 pm12 an12 cd12 ct12), sl12⟩) (c12 : PySem.W.codeIn K cd12 "_law_take" = true) (k12 : PySem.W.keepIn K (.ref f12) = true)
    {f13 : Addr} {od13 an13 : Option Addr} {sl13 : Array (Option Value)} {oc13 kV13 dc13 pm13 cd13 ct13 : Value}
    (a13 : PySem.W.nsIn K mainGlobals "_law_one" = some (some (.ref f13))) (l13 : K.lookup f13 = some ⟨oc13, od13, .func (PySem.W.fnOf "_law_one" "_law_one" (defArgs s_law_one) (defBody s_law_one) (defScope s_law_one) .none kV13 dc13 pm13 an13 cd13 ct13), sl13⟩) (c13 : PySem.W.codeIn K cd13 "_law_one" = true) (k13 : PySem.W.keepIn K (.ref f13) = true)
    {f14 : Addr} {od14 an14 : Option Addr} {sl14 : Array (Option Value)} {oc14 kV14 dc14 pm14 cd14 ct14 : Value}
    (a14 : PySem.W.nsIn K mainGlobals "_law_layers" = some (some (.ref f14))) (l14 : K.lookup f14 = some ⟨oc14, od14, .func (PySem.W.fnOf "_law_layers" "_law_layers" (defArgs s_law_layers) (defBody s_law_layers) (defScope s_law_layers) .none kV14 dc14 pm14 an14 cd14 ct14), sl14⟩) (c14 : PySem.W.codeIn K cd14 "_law_layers" = true) (k14 : PySem.W.keepIn K (.ref f14) = true)
    {f15 : Addr} {od15 an15 : Option Addr} {sl15 : Array (Option Value)} {oc15 kV15 dc15 pm15 cd15 ct15 : Value}
    (a15 : PySem.W.nsIn K mainGlobals "_law_side" = some (some (.ref f15))) (l15 : K.lookup f15 = some ⟨oc15, od15, .func (PySem.W.fnOf "_law_side" "_law_side" (defArgs s_law_side) (defBody s_law_side) (defScope s_law_side) .none kV15 dc15 pm15 an15 cd15 ct15), sl15⟩) (c15 : PySem.W.codeIn K cd15 "_law_side" = true) (k15 : PySem.W.keepIn K (.ref f15) = true)
    {f16 : Addr} {od16 an16 : Option Addr} {sl16 : Array (Option Value)} {oc16 kV16 dc16 pm16 cd16 ct16 : Value}
    (a16 : PySem.W.nsIn K mainGlobals "_law_things" = some (some (.ref f16))) (l16 : K.lookup f16 = some ⟨oc16, od16, .func (PySem.W.fnOf "_law_things" "_law_things" (defArgs s_law_things) (defBody s_law_things) (defScope s_law_things) .none kV16 dc16 pm16 an16 cd16 ct16), sl16⟩) (c16 : PySem.W.codeIn K cd16 "_law_things" = true) (k16 : PySem.W.keepIn K (.ref f16) = true)
    {f17 : Addr} {od17 an17 : Option Addr} {sl17 : Array (Option Value)} {oc17 kV17 dc17 pm17 cd17 ct17 : Value}
    (a17 : PySem.W.nsIn K mainGlobals "_law_wrong" = some (some (.ref f17))) (l17 : K.lookup f17 = some ⟨oc17, od17, .func (PySem.W.fnOf "_law_wrong" "_law_wrong" (defArgs s_law_wrong) (defBody s_law_wrong) (defScope s_law_wrong) .none kV17 dc17 pm17 an17 cd17 ct17), sl17⟩) (c17 : PySem.W.codeIn K cd17 "_law_wrong" = true) (k17 : PySem.W.keepIn K (.ref f17) = true)
    {f18 : Addr} {od18 an18 : Option Addr} {sl18 : Array (Option Value)} {oc18 kV18 dc18 pm18 cd18 ct18 : Value}
    (a18 : PySem.W.nsIn K mainGlobals "_law_pieces" = some (some (.ref f18))) (l18 : K.lookup f18 = some ⟨oc18, od18, .func (PySem.W.fnOf "_law_pieces" "_law_pieces" (defArgs s_law_pieces) (defBody s_law_pieces) (defScope s_law_pieces) .none kV18 dc18 pm18 an18 cd18 ct18), sl18⟩) (c18 : PySem.W.codeIn K cd18 "_law_pieces" = true) (k18 : PySem.W.keepIn K (.ref f18) = true)
    {f19 : Addr} {od19 an19 : Option Addr} {sl19 : Array (Option Value)} {oc19 kV19 dc19 pm19 cd19 ct19 : Value}
    (a19 : PySem.W.nsIn K mainGlobals "_law_made" = some (some (.ref f19))) (l19 : K.lookup f19 = some ⟨oc19, od19, .func (PySem.W.fnOf "_law_made" "_law_made" (defArgs s_law_made) (defBody s_law_made) (defScope s_law_made) .none kV19 dc19 pm19 an19 cd19 ct19), sl19⟩) (c19 : PySem.W.codeIn K cd19 "_law_made" = true) (k19 : PySem.W.keepIn K (.ref f19) = true)
    {f20 : Addr} {od20 an20 : Option Addr} {sl20 : Array (Option Value)} {oc20 kV20 dc20 pm20 cd20 ct20 : Value}
    (a20 : PySem.W.nsIn K mainGlobals "_law_right" = some (some (.ref f20))) (l20 : K.lookup f20 = some ⟨oc20, od20, .func (PySem.W.fnOf "_law_right" "_law_right" (defArgs s_law_right) (defBody s_law_right) (defScope s_law_right) .none kV20 dc20 pm20 an20 cd20 ct20), sl20⟩) (c20 : PySem.W.codeIn K cd20 "_law_right" = true) (k20 : PySem.W.keepIn K (.ref f20) = true)
    {f21 : Addr} {od21 an21 : Option Addr} {sl21 : Array (Option Value)} {oc21 kV21 dc21 pm21 cd21 ct21 : Value}
    (a21 : PySem.W.nsIn K mainGlobals "law" = some (some (.ref f21))) (l21 : K.lookup f21 = some ⟨oc21, od21, .func (PySem.W.fnOf "law" "law" (defArgs s_law) (defBody s_law) (defScope s_law) .none kV21 dc21 pm21 an21 cd21 ct21), sl21⟩) (c21 : PySem.W.codeIn K cd21 "law" = true) (k21 : PySem.W.keepIn K (.ref f21) = true)
    {K_Setting : Addr} (og_Setting : PySem.W.nsIn K mainGlobals "Setting" = some (some (.ref K_Setting))) (o1_Setting : PySem.W.plainGet K K_Setting Str.empty = true) (o2_Setting : PySem.W.hasDictIn K K_Setting = true) (o3_Setting : PySem.W.plainOver K K_Setting = true) (o4_Setting : PySem.W.findIn K (.ref K_Setting) "__setattr__" = some (some (.builtin "object.__setattr__"))) (o5_Setting : PySem.W.makesIn K K_Setting = true) (o6_Setting : PySem.W.keepIn K (.ref K_Setting) = true)
    (on_Setting__rect : PySem.W.findIn K (.ref K_Setting) "_rect" = some none)
    (on_Setting_layers : PySem.W.findIn K (.ref K_Setting) "layers" = some none)
    (on_Setting_mode : PySem.W.findIn K (.ref K_Setting) "mode" = some none)
    (on_Setting_order : PySem.W.findIn K (.ref K_Setting) "order" = some none)
    (on_Setting_planes : PySem.W.findIn K (.ref K_Setting) "planes" = some none)
    (on_Setting_tx : PySem.W.findIn K (.ref K_Setting) "tx" = some none)
    (on_Setting_ty : PySem.W.findIn K (.ref K_Setting) "ty" = some none)
    (on_Setting_word : PySem.W.findIn K (.ref K_Setting) "word" = some none)
    (i1_Setting_str : PySem.W.findIn K (.ref K_Setting) "__class__" = some (some (.builtin "object.__class__"))) (i2_Setting_str : PySem.W.specialIn K (.builtin "object.__class__") "__get__" = some (some (.builtin "getset_descriptor.__get__"))) (i3_Setting_str : PySem.W.takesIn K (.builtin "object.__class__") = some true) (i4_Setting_str : PySem.W.mroIn K K_Setting (.type "object") = some true) (i5_Setting_str : PySem.W.subIn K (.ref K_Setting) (.type "str") = some false)
    (pa5 : PySem.W.findIn K (.ref K_Setting) "__init__" = some (some (.ref f5))) (pb5 : PySem.W.isFn K (.ref f5) = true)
    {pp6 : Addr} {pr6 : List Value} (pa6 : PySem.W.findIn K (.ref K_Setting) "rect" = some (some (.ref pp6))) (pb6 : PySem.W.specialIn K (.ref pp6) "__get__" = some (some (.builtin "property.__get__"))) (pc6 : PySem.W.takesIn K (.ref pp6) = some true) (pd6 : PySem.W.recIn K pp6 "property" = some (.ref f6 :: pr6))
    (z_ValueError : PySem.W.nsIn K mainGlobals "ValueError" = some none)
    (z_abs : PySem.W.nsIn K mainGlobals "abs" = some none)
    (z_int : PySem.W.nsIn K mainGlobals "int" = some none)
    (z_isinstance : PySem.W.nsIn K mainGlobals "isinstance" = some none)
    (z_len : PySem.W.nsIn K mainGlobals "len" = some none)
    (z_list : PySem.W.nsIn K mainGlobals "list" = some none)
    (z_max : PySem.W.nsIn K mainGlobals "max" = some none)
    (z_min : PySem.W.nsIn K mainGlobals "min" = some none)
    (z_range : PySem.W.nsIn K mainGlobals "range" = some none)
    (z_sorted : PySem.W.nsIn K mainGlobals "sorted" = some none)
    (z_str : PySem.W.nsIn K mainGlobals "str" = some none)
    (z_sum : PySem.W.nsIn K mainGlobals "sum" = some none)
    (z_super : PySem.W.nsIn K mainGlobals "super" = some none)
    (z_tuple : PySem.W.nsIn K mainGlobals "tuple" = some none)
    {t_MOST_PIECES : Tok} (e_MOST_PIECES : PySem.W.nsIn K mainGlobals "MOST_PIECES" = some (some (.int (2000) t_MOST_PIECES)))
    {t_MOST_PLACE : Tok} (e_MOST_PLACE : PySem.W.nsIn K mainGlobals "MOST_PLACE" = some (some (.int (1073741824) t_MOST_PLACE)))
    {t_MOST_SIDE : Tok} (e_MOST_SIDE : PySem.W.nsIn K mainGlobals "MOST_SIDE" = some (some (.int (32) t_MOST_SIDE)))
    {C_BadField : Addr} (g_BadField : PySem.W.nsIn K mainGlobals "BadField" = some (some (.ref C_BadField)))
    (x1_BadField : PySem.W.keepIn K (.ref C_BadField) = true) (x2_BadField : PySem.W.subIn K (.ref C_BadField) (.type "BaseException") = some true) (x3_BadField : PySem.W.typeIn K (.ref C_BadField) = some (.type "type"))
    (x4_BadField : PySem.W.findIn K (.ref C_BadField) "__getattribute__" = some (some (.builtin "BaseException.__getattribute__"))) (x5_BadField : PySem.W.findIn K (.ref C_BadField) "__getattr__" = some none) (x6_BadField : PySem.W.hasDictIn K C_BadField = true)
    (x7_BadField : PySem.W.findIn K (.ref C_BadField) "__class__" = some (some (.builtin "object.__class__"))) (x8_BadField : PySem.W.specialIn K (.builtin "object.__class__") "__get__" = some (some (.builtin "getset_descriptor.__get__"))) (x9_BadField : PySem.W.takesIn K (.builtin "object.__class__") = some true) (xa_BadField : PySem.W.mroIn K C_BadField (.type "object") = some true)
    {C_BadGrid : Addr} (g_BadGrid : PySem.W.nsIn K mainGlobals "BadGrid" = some (some (.ref C_BadGrid))) (x0_BadGrid : PySem.W.excIn K C_BadGrid [.type "ValueError", .type "Exception", .type "BaseException", .type "object"] "ValueError.__new__" = true)
    (x1_BadGrid : PySem.W.keepIn K (.ref C_BadGrid) = true) (x2_BadGrid : PySem.W.subIn K (.ref C_BadGrid) (.type "BaseException") = some true) (x3_BadGrid : PySem.W.typeIn K (.ref C_BadGrid) = some (.type "type"))
    (x4_BadGrid : PySem.W.findIn K (.ref C_BadGrid) "__getattribute__" = some (some (.builtin "BaseException.__getattribute__"))) (x5_BadGrid : PySem.W.findIn K (.ref C_BadGrid) "__getattr__" = some none) (x6_BadGrid : PySem.W.hasDictIn K C_BadGrid = true)
    (x7_BadGrid : PySem.W.findIn K (.ref C_BadGrid) "__class__" = some (some (.builtin "object.__class__"))) (x8_BadGrid : PySem.W.specialIn K (.builtin "object.__class__") "__get__" = some (some (.builtin "getset_descriptor.__get__"))) (x9_BadGrid : PySem.W.takesIn K (.builtin "object.__class__") = some true) (xa_BadGrid : PySem.W.mroIn K C_BadGrid (.type "object") = some true)
    {C_NarrowError : Addr} (g_NarrowError : PySem.W.nsIn K mainGlobals "NarrowError" = some (some (.ref C_NarrowError))) (x0_NarrowError : PySem.W.excIn K C_NarrowError [.type "ValueError", .type "Exception", .type "BaseException", .type "object"] "ValueError.__new__" = true)
    (x1_NarrowError : PySem.W.keepIn K (.ref C_NarrowError) = true) (x2_NarrowError : PySem.W.subIn K (.ref C_NarrowError) (.type "BaseException") = some true) (x3_NarrowError : PySem.W.typeIn K (.ref C_NarrowError) = some (.type "type"))
    (x4_NarrowError : PySem.W.findIn K (.ref C_NarrowError) "__getattribute__" = some (some (.builtin "BaseException.__getattribute__"))) (x5_NarrowError : PySem.W.findIn K (.ref C_NarrowError) "__getattr__" = some none) (x6_NarrowError : PySem.W.hasDictIn K C_NarrowError = true)
    (x7_NarrowError : PySem.W.findIn K (.ref C_NarrowError) "__class__" = some (some (.builtin "object.__class__"))) (x8_NarrowError : PySem.W.specialIn K (.builtin "object.__class__") "__get__" = some (some (.builtin "getset_descriptor.__get__"))) (x9_NarrowError : PySem.W.takesIn K (.builtin "object.__class__") = some true) (xa_NarrowError : PySem.W.mroIn K C_NarrowError (.type "object") = some true)
    {C_TooMany : Addr} (g_TooMany : PySem.W.nsIn K mainGlobals "TooMany" = some (some (.ref C_TooMany)))
    (x1_TooMany : PySem.W.keepIn K (.ref C_TooMany) = true) (x2_TooMany : PySem.W.subIn K (.ref C_TooMany) (.type "BaseException") = some true) (x3_TooMany : PySem.W.typeIn K (.ref C_TooMany) = some (.type "type"))
    (x4_TooMany : PySem.W.findIn K (.ref C_TooMany) "__getattribute__" = some (some (.builtin "BaseException.__getattribute__"))) (x5_TooMany : PySem.W.findIn K (.ref C_TooMany) "__getattr__" = some none) (x6_TooMany : PySem.W.hasDictIn K C_TooMany = true)
    (x7_TooMany : PySem.W.findIn K (.ref C_TooMany) "__class__" = some (some (.builtin "object.__class__"))) (x8_TooMany : PySem.W.specialIn K (.builtin "object.__class__") "__get__" = some (some (.builtin "getset_descriptor.__get__"))) (x9_TooMany : PySem.W.takesIn K (.builtin "object.__class__") = some true) (xa_TooMany : PySem.W.mroIn K C_TooMany (.type "object") = some true)
    (no_BadField_name : PySem.W.findIn K (.ref C_BadField) "name" = some none)
    (no_TooMany_most : PySem.W.findIn K (.ref C_TooMany) "most" = some none)
    (s_BadField_BadField : PySem.W.subIn K (.ref C_BadField) (.ref C_BadField) = some true)
    (s_BadField_BadGrid : PySem.W.subIn K (.ref C_BadField) (.ref C_BadGrid) = some false)
    (s_BadField_NarrowError : PySem.W.subIn K (.ref C_BadField) (.ref C_NarrowError) = some true)
    (s_BadField_TooMany : PySem.W.subIn K (.ref C_BadField) (.ref C_TooMany) = some false)
    (s_BadGrid_BadField : PySem.W.subIn K (.ref C_BadGrid) (.ref C_BadField) = some false)
    (s_BadGrid_BadGrid : PySem.W.subIn K (.ref C_BadGrid) (.ref C_BadGrid) = some true)
    (s_BadGrid_NarrowError : PySem.W.subIn K (.ref C_BadGrid) (.ref C_NarrowError) = some true)
    (s_BadGrid_TooMany : PySem.W.subIn K (.ref C_BadGrid) (.ref C_TooMany) = some false)
    (s_NarrowError_BadField : PySem.W.subIn K (.ref C_NarrowError) (.ref C_BadField) = some false)
    (s_NarrowError_BadGrid : PySem.W.subIn K (.ref C_NarrowError) (.ref C_BadGrid) = some false)
    (s_NarrowError_NarrowError : PySem.W.subIn K (.ref C_NarrowError) (.ref C_NarrowError) = some true)
    (s_NarrowError_TooMany : PySem.W.subIn K (.ref C_NarrowError) (.ref C_TooMany) = some false)
    (s_TooMany_BadField : PySem.W.subIn K (.ref C_TooMany) (.ref C_BadField) = some false)
    (s_TooMany_BadGrid : PySem.W.subIn K (.ref C_TooMany) (.ref C_BadGrid) = some false)
    (s_TooMany_NarrowError : PySem.W.subIn K (.ref C_TooMany) (.ref C_NarrowError) = some true)
    (s_TooMany_TooMany : PySem.W.subIn K (.ref C_TooMany) (.ref C_TooMany) = some true)
    {xn0 xq0 : Str} {xN0 : Addr} {xb0 xm0 : List Value} {xsn0 : List Str} {xsu0 : List Value} {xab0 : Bool} {xco0 : Option Bool} {xdd0 : Option Addr} {xk00 xk10 xk20 xk30 xk50 : Option Value} (xl0 : K.lookup C_BadField = some (excClassObj xn0 xq0 C_BadField xN0 xb0 xm0 true xsn0 xsu0 xab0 xco0 xdd0 xk00 xk10 xk20 xk30 xk50 "ValueError.__new__")) (xr0 : PySem.HandSPX.refsVE xm0 = true) (xs0 : PySem.W.findIn K (.ref C_BadField) "__setattr__" = some (some (.builtin "object.__setattr__")))
    {sc0 : Value} {sd0 : Option Addr} {se0 : Array (Option Value)} {sg0 : Value} {sh0 : Option Addr} {si0 : Array Value} {sj0 : Array (Option Value)} {sfile0 : Str} {st0 : Tok} (sm0 : PySem.W.ks_superIn K C_BadField C_BadField "__init__" = some (some (.builtin "ValueError.__init__"))) (sv0 : PySem.W.subIn K (.ref C_BadField) (.type "ValueError") = some true) (ss0 : PySem.W.mroIn K C_BadField (.ref C_BadField) = some true) (sa0 : PySem.W.nsIn K cStatics "thirdparty.any" = some none) (sl0 : K.lookup cc0 = some ⟨sc0, sd0, .cell (some (.ref C_BadField)), se0⟩) (sk0 : K.lookup cda0 = some ⟨sg0, sh0, .fields si0, sj0⟩) (sf0 : si0[2]? = some (.str sfile0 st0)) (ef0 : l.prog.main.file = sfile0) (et0 : (l.prog.main.scope.names.lookup ("super" : Str)).isSome = false) (pa0 : PySem.W.findIn K (.ref C_BadField) "__init__" = some (some (.ref f0))) (pb0 : PySem.W.typeIn K (.ref f0) = some (.type "function"))
    {xn1 xq1 : Str} {xN1 : Addr} {xb1 xm1 : List Value} {xsn1 : List Str} {xsu1 : List Value} {xab1 : Bool} {xco1 : Option Bool} {xdd1 : Option Addr} {xk01 xk11 xk21 xk31 xk51 : Option Value} (xl1 : K.lookup C_TooMany = some (excClassObj xn1 xq1 C_TooMany xN1 xb1 xm1 true xsn1 xsu1 xab1 xco1 xdd1 xk01 xk11 xk21 xk31 xk51 "ValueError.__new__")) (xr1 : PySem.HandSPX.refsVE xm1 = true) (xs1 : PySem.W.findIn K (.ref C_TooMany) "__setattr__" = some (some (.builtin "object.__setattr__")))
    {sc1 : Value} {sd1 : Option Addr} {se1 : Array (Option Value)} {sg1 : Value} {sh1 : Option Addr} {si1 : Array Value} {sj1 : Array (Option Value)} {sfile1 : Str} {st1 : Tok} (sm1 : PySem.W.ks_superIn K C_TooMany C_TooMany "__init__" = some (some (.builtin "ValueError.__init__"))) (sv1 : PySem.W.subIn K (.ref C_TooMany) (.type "ValueError") = some true) (ss1 : PySem.W.mroIn K C_TooMany (.ref C_TooMany) = some true) (sa1 : PySem.W.nsIn K cStatics "thirdparty.any" = some none) (sl1 : K.lookup cc1 = some ⟨sc1, sd1, .cell (some (.ref C_TooMany)), se1⟩) (sk1 : K.lookup cda1 = some ⟨sg1, sh1, .fields si1, sj1⟩) (sf1 : si1[2]? = some (.str sfile1 st1)) (ef1 : l.prog.main.file = sfile1) (et1 : (l.prog.main.scope.names.lookup ("super" : Str)).isSome = false) (pa1 : PySem.W.findIn K (.ref C_TooMany) "__init__" = some (some (.ref f1))) (pb1 : PySem.W.typeIn K (.ref f1) = some (.type "function"))
    (v_BadField : PySem.W.subIn K (.ref C_BadField) (.type "ValueError") = some true)
    (v_BadGrid : PySem.W.subIn K (.ref C_BadGrid) (.type "ValueError") = some true)
    (v_NarrowError : PySem.W.subIn K (.ref C_NarrowError) (.type "ValueError") = some true)
    (v_TooMany : PySem.W.subIn K (.ref C_TooMany) (.type "ValueError") = some true)
    : ∃ fd : FuncData, (∀ (s : Shared) (v : Value), BindsTo s fd ⟨[v], []⟩ [("_law_script", v)]) ∧ ∀ base : Heap, K.In base → base.Ns mainGlobals mg → FnOk l.prog w K mg base (L2.CX l.prog w) 10 fa fd ["_law_script"] (sp_law K mg) := by
  have e := hfa.symm.trans (PySem.W.mg_of X G a21)
  cases e
  have e_BadField := exA_of (PySem.W.mg_of X G g_BadField)
  have e_BadGrid := exA_of (PySem.W.mg_of X G g_BadGrid)
  have e_NarrowError := exA_of (PySem.W.mg_of X G g_NarrowError)
  have e_TooMany := exA_of (PySem.W.mg_of X G g_TooMany)
  have eo_Setting := exA_of (PySem.W.mg_of X G og_Setting)
  have Z : Zs K mg := ⟨PySem.W.mg_none_of X G z_ValueError, PySem.W.mg_none_of X G z_abs, PySem.W.mg_none_of X G z_int, PySem.W.mg_none_of X G z_isinstance, PySem.W.mg_none_of X G z_len, PySem.W.mg_none_of X G z_list, PySem.W.mg_none_of X G z_max, PySem.W.mg_none_of X G z_min, PySem.W.mg_none_of X G z_range, PySem.W.mg_none_of X G z_sorted, PySem.W.mg_none_of X G z_str, PySem.W.mg_none_of X G z_sum, PySem.W.mg_none_of X G z_super, PySem.W.mg_none_of X G z_tuple, ⟨_, PySem.W.mg_of X G e_MOST_PIECES⟩, ⟨_, PySem.W.mg_of X G e_MOST_PLACE⟩, ⟨_, PySem.W.mg_of X G e_MOST_SIDE⟩, ExG.mk' (PySem.W.mg_of X G g_BadField)  x1_BadField x2_BadField x3_BadField x4_BadField x5_BadField x6_BadField x7_BadField x8_BadField x9_BadField xa_BadField, ExF.mk' (PySem.W.mg_of X G g_BadGrid) x0_BadGrid x1_BadGrid x2_BadGrid x3_BadGrid x4_BadGrid x5_BadGrid x6_BadGrid x7_BadGrid x8_BadGrid x9_BadGrid xa_BadGrid, ExF.mk' (PySem.W.mg_of X G g_NarrowError) x0_NarrowError x1_NarrowError x2_NarrowError x3_NarrowError x4_NarrowError x5_NarrowError x6_NarrowError x7_NarrowError x8_NarrowError x9_NarrowError xa_NarrowError, ExG.mk' (PySem.W.mg_of X G g_TooMany)  x1_TooMany x2_TooMany x3_TooMany x4_TooMany x5_TooMany x6_TooMany x7_TooMany x8_TooMany x9_TooMany xa_TooMany, (by rw [e_BadField]; exact no_BadField_name), (by rw [e_TooMany]; exact no_TooMany_most), (by rw [e_BadField]; exact s_BadField_BadField), (by rw [e_BadField]; exact kit_own x6_BadField x3_BadField s_BadField_BadField s_BadField_BadField), (by rw [e_BadField, e_BadGrid]; exact s_BadField_BadGrid), (by rw [e_BadField, e_BadGrid]; exact kit_own x6_BadGrid x3_BadGrid s_BadField_BadGrid s_BadField_BadField), (by rw [e_BadField, e_NarrowError]; exact s_BadField_NarrowError), (by rw [e_BadField, e_NarrowError]; exact kit_own x6_NarrowError x3_NarrowError s_BadField_NarrowError s_BadField_BadField), (by rw [e_BadField, e_TooMany]; exact s_BadField_TooMany), (by rw [e_BadField, e_TooMany]; exact kit_own x6_TooMany x3_TooMany s_BadField_TooMany s_BadField_BadField), (by rw [e_BadGrid, e_BadField]; exact s_BadGrid_BadField), (by rw [e_BadGrid, e_BadField]; exact kit_own x6_BadField x3_BadField s_BadGrid_BadField s_BadGrid_BadGrid), (by rw [e_BadGrid]; exact s_BadGrid_BadGrid), (by rw [e_BadGrid]; exact kit_own x6_BadGrid x3_BadGrid s_BadGrid_BadGrid s_BadGrid_BadGrid), (by rw [e_BadGrid, e_NarrowError]; exact s_BadGrid_NarrowError), (by rw [e_BadGrid, e_NarrowError]; exact kit_own x6_NarrowError x3_NarrowError s_BadGrid_NarrowError s_BadGrid_BadGrid), (by rw [e_BadGrid, e_TooMany]; exact s_BadGrid_TooMany), (by rw [e_BadGrid, e_TooMany]; exact kit_own x6_TooMany x3_TooMany s_BadGrid_TooMany s_BadGrid_BadGrid), (by rw [e_NarrowError, e_BadField]; exact s_NarrowError_BadField), (by rw [e_NarrowError, e_BadField]; exact kit_own x6_BadField x3_BadField s_NarrowError_BadField s_NarrowError_NarrowError), (by rw [e_NarrowError, e_BadGrid]; exact s_NarrowError_BadGrid), (by rw [e_NarrowError, e_BadGrid]; exact kit_own x6_BadGrid x3_BadGrid s_NarrowError_BadGrid s_NarrowError_NarrowError), (by rw [e_NarrowError]; exact s_NarrowError_NarrowError), (by rw [e_NarrowError]; exact kit_own x6_NarrowError x3_NarrowError s_NarrowError_NarrowError s_NarrowError_NarrowError), (by rw [e_NarrowError, e_TooMany]; exact s_NarrowError_TooMany), (by rw [e_NarrowError, e_TooMany]; exact kit_own x6_TooMany x3_TooMany s_NarrowError_TooMany s_NarrowError_NarrowError), (by rw [e_TooMany, e_BadField]; exact s_TooMany_BadField), (by rw [e_TooMany, e_BadField]; exact kit_own x6_BadField x3_BadField s_TooMany_BadField s_TooMany_TooMany), (by rw [e_TooMany, e_BadGrid]; exact s_TooMany_BadGrid), (by rw [e_TooMany, e_BadGrid]; exact kit_own x6_BadGrid x3_BadGrid s_TooMany_BadGrid s_TooMany_TooMany), (by rw [e_TooMany, e_NarrowError]; exact s_TooMany_NarrowError), (by rw [e_TooMany, e_NarrowError]; exact kit_own x6_NarrowError x3_NarrowError s_TooMany_NarrowError s_TooMany_TooMany), (by rw [e_TooMany]; exact s_TooMany_TooMany), (by rw [e_TooMany]; exact kit_own x6_TooMany x3_TooMany s_TooMany_TooMany s_TooMany_TooMany), (by rw [e_BadField]; exact kit_val v_BadField), (by rw [e_BadGrid]; exact kit_val v_BadGrid), (by rw [e_NarrowError]; exact kit_val v_NarrowError), (by rw [e_TooMany]; exact kit_val v_TooMany), ClF.mk' (PySem.W.mg_of X G og_Setting) ⟨o1_Setting, o2_Setting, o3_Setting, o4_Setting⟩, (by rw [eo_Setting]; exact on_Setting__rect), (by rw [eo_Setting]; exact on_Setting_layers), (by rw [eo_Setting]; exact on_Setting_mode), (by rw [eo_Setting]; exact on_Setting_order), (by rw [eo_Setting]; exact on_Setting_planes), (by rw [eo_Setting]; exact on_Setting_tx), (by rw [eo_Setting]; exact on_Setting_ty), (by rw [eo_Setting]; exact on_Setting_word), (by rw [eo_Setting]; exact ⟨i1_Setting_str, i2_Setting_str, i3_Setting_str, i4_Setting_str, kit_neT rfl rfl i5_Setting_str⟩)⟩
  have F0 := funS_mk (st := s_BadField___init__) l0 c0
  have F1 := funS_mk (st := s_TooMany___init__) l1 c1
  have F2 := fun_mk (st := s_is_word) l2 c2 k2
  have F3 := fun_mk (st := s_are_layers) l3 c3 k3
  have F4 := fun_mk (st := s_is_side) l4 c4 k4
  have F5 := fun_mk (st := s_Setting___init__) l5 c5 k5
  have F6 := fun_mk (st := s_Setting_rect) l6 c6 k6
  have F7 := fun_mk (st := s_channel_count) l7 c7 k7
  have F8 := fun_mk (st := s_tile_spans) l8 c8 k8
  have F9 := fun_mk (st := s_line_count) l9 c9 k9
  have F10 := fun_mk (st := s_piece_count) l10 c10 k10
  have F11 := fun_mk (st := s_law_pool) l11 c11 k11
  have F12 := fun_mk (st := s_law_take) l12 c12 k12
  have F13 := fun_mk (st := s_law_one) l13 c13 k13
  have F14 := fun_mk (st := s_law_layers) l14 c14 k14
  have F15 := fun_mk (st := s_law_side) l15 c15 k15
  have F16 := fun_mk (st := s_law_things) l16 c16 k16
  have F17 := fun_mk (st := s_law_wrong) l17 c17 k17
  have F18 := fun_mk (st := s_law_pieces) l18 c18 k18
  have F19 := fun_mk (st := s_law_made) l19 c19 k19
  have F20 := fun_mk (st := s_law_right) l20 c20 k20
  have F21 := fun_mk (st := s_law) l21 c21 k21
  refine ⟨PySem.W.fnOf "law" "law" (defArgs s_law) (defBody s_law) (defScope s_law) .none kV21 dc21 pm21 an21 cd21 ct21, fun s v => .of_eq rfl, fun base _ _ => ?_⟩
  have R_Setting_rect : Ok_Setting_rect l.prog w K mg base := ⟨_, _, _, okx_Setting_rect Z F6 , by rw [eo_Setting]; exact ⟨pa6, pb6, pc6, ⟨_, pd6⟩⟩⟩
  have R_channel_count : Ok_channel_count l.prog w K mg base := ⟨_, _, okx_channel_count Z F7 (PySem.W.mg_of X G a7) ⟩
  have R_tile_spans : Ok_tile_spans l.prog w K mg base := ⟨_, _, okx_tile_spans Z F8 (PySem.W.mg_of X G a8) R_Setting_rect⟩
  have R_line_count : Ok_line_count l.prog w K mg base := ⟨_, _, okx_line_count Z F9 (PySem.W.mg_of X G a9) R_channel_count R_tile_spans⟩
  have R_piece_count : Ok_piece_count l.prog w K mg base := ⟨_, _, okx_piece_count Z F10 (PySem.W.mg_of X G a10) R_line_count⟩
  have R_TooMany___init__ : Ok_TooMany___init__ l.prog w K mg base := ⟨_, _, okx_TooMany___init__ (P := l.prog) Z F1 (by rw [e_TooMany]; exact ⟨sm1, sv1, ss1, clsIn_some xl1, sa1, ⟨_, _, _, sl1⟩, ⟨_, _, _, _, _, sk1, sf1⟩⟩) (by rw [e_TooMany]; exact ⟨⟨_, _, _, _, _, _, _, _, _, _, _, _, _, _, _, xl1, xr1⟩, xs1, x2_TooMany, x3_TooMany, x1_TooMany⟩) (by rw [e_TooMany]; exact pa1) pb1 ef1 et1⟩
  have R_BadField___init__ : Ok_BadField___init__ l.prog w K mg base := ⟨_, _, okx_BadField___init__ (P := l.prog) Z F0 (by rw [e_BadField]; exact ⟨sm0, sv0, ss0, clsIn_some xl0, sa0, ⟨_, _, _, sl0⟩, ⟨_, _, _, _, _, sk0, sf0⟩⟩) (by rw [e_BadField]; exact ⟨⟨_, _, _, _, _, _, _, _, _, _, _, _, _, _, _, xl0, xr0⟩, xs0, x2_BadField, x3_BadField, x1_BadField⟩) (by rw [e_BadField]; exact pa0) pb0 ef0 et0⟩
  have R_are_layers : Ok_are_layers l.prog w K mg base := ⟨_, _, okx_are_layers Z F3 (PySem.W.mg_of X G a3) ⟩
  have R_is_word : Ok_is_word l.prog w K mg base := ⟨_, _, okx_is_word Z F2 (PySem.W.mg_of X G a2) ⟩
  have R_is_side : Ok_is_side l.prog w K mg base := ⟨_, _, okx_is_side Z F4 (PySem.W.mg_of X G a4) ⟩
  have R_Setting___init__ : Ok_Setting___init__ l.prog w K mg base := ⟨_, _, okx_Setting___init__ Z F5 R_piece_count R_TooMany___init__ R_BadField___init__ R_are_layers R_is_word R_is_side, by rw [eo_Setting]; exact ⟨o5_Setting, pa5, pb5, o6_Setting⟩⟩
  have R_law_made : Ok_law_made l.prog w K mg base := ⟨_, _, okx_law_made Z F19 (PySem.W.mg_of X G a19) R_Setting___init__⟩
  have R_law_pieces : Ok_law_pieces l.prog w K mg base := ⟨_, _, okx_law_pieces Z F18 (PySem.W.mg_of X G a18) ⟩
  have R_law_wrong : Ok_law_wrong l.prog w K mg base := ⟨_, _, okx_law_wrong Z F17 (PySem.W.mg_of X G a17) ⟩
  have R_law_right : Ok_law_right l.prog w K mg base := ⟨_, _, okx_law_right Z F20 (PySem.W.mg_of X G a20) R_Setting_rect R_law_made R_law_pieces R_law_wrong⟩
  have R_law_take : Ok_law_take l.prog w K mg base := ⟨_, _, okx_law_take Z F12 (PySem.W.mg_of X G a12) ⟩
  have R_law_one : Ok_law_one l.prog w K mg base := ⟨_, _, okx_law_one Z F13 (PySem.W.mg_of X G a13) R_law_take⟩
  have R_law_layers : Ok_law_layers l.prog w K mg base := ⟨_, _, okx_law_layers Z F14 (PySem.W.mg_of X G a14) R_law_take⟩
  have R_law_side : Ok_law_side l.prog w K mg base := ⟨_, _, okx_law_side Z F15 (PySem.W.mg_of X G a15) R_law_take R_law_one⟩
  have R_law_things : Ok_law_things l.prog w K mg base := ⟨_, _, okx_law_things Z F16 (PySem.W.mg_of X G a16) R_law_one R_law_take R_law_layers R_law_side⟩
  have R_law_pool : Ok_law_pool l.prog w K mg base := ⟨_, _, okx_law_pool Z F11 (PySem.W.mg_of X G a11) ⟩
  exact (okx_law (P := l.prog) (w := w) (base := base) Z F21 (PySem.W.mg_of X G a21) R_law_right R_law_take R_law_things R_law_pool).G
theorem walk {l : PySem.W.OpenLaw} {q : Program} {loose : List Str} {XP : (Str → Option Value) → Heap → Prop} {YP : World → Heap → Prop} {d : DefRec} {K : Params → PySem.W.Frag} (hn : l.most = some 63) (hdf : d.params.defaults = [])
    (hY : ∀ (w : World) (h : Heap), YP w h → (K w.params).In h)
    (F : ∀ (w : World) (mg : Str → Option Value) (fa : Addr) (h : Heap), (K w.params).In h → h.Ns mainGlobals mg → mg d.name = some (.ref fa) →
      ∃ fd : FuncData, (∀ (s : Shared) (u : Value), BindsTo s fd ⟨[u], []⟩ [("_law_script", u)]) ∧ ∀ base : Heap, (K w.params).In base → base.Ns mainGlobals mg → FnOk l.prog w (K w.params) mg base (L2.CX l.prog w) 10 fa fd ["_law_script"] (sp_law (K w.params) mg)) :
    PySem.W.WalkO q loose XP YP l.row.toRowW d [] (fun f vs => PySem.call f vs) :=
  L2.walk_of (n := 63) (k := 10) (x := "_law_script") (CX := fun w => L2.CX l.prog w) (sp := fun w => sp_lawK (K w.params)) hn (by decide) hdf ⟨rfl, by decide, by decide⟩ hY F (fun _ _ _ ns hl _ hS => law_start hl hS) fun _ _ _ _ _ z => cx_none z
end NB
open PySem PySem.W PyProof.Rows in
set_option maxRecDepth 100000 in
set_option maxHeartbeats 0 in
theorem PySem.Challenge.cw_narrowingbits_k36_settings_refused_holds : PySem.Challenge.rw_narrowingbits_k36_settings_refused.Holds := by
  w_on; o_law; k_head; (case hw => w_witness2)
  k_fill
  refine NB.walk (l := PySem.Challenge.rw_narrowingbits_k36_settings_refused) rfl rfl (fun w h Y => PySem.W.kIn_of Y) ?F
  case F =>
    intro w mg fa h KX G hmg
    refine' NB.all_mk KX G hmg ?l0 ?c0 ?l1 ?c1 ?a2 ?l2 ?c2 ?k2 ?a3 ?l3 ?c3 ?k3 ?a4 ?l4 ?c4 ?k4 ?l5 ?c5 ?k5 ?l6 ?c6 ?k6 ?a7 ?l7 ?c7 ?k7 ?a8 ?l8 ?c8 ?k8 ?a9 ?l9 ?c9 ?k9 ?a10 ?l10 ?c10 ?k10 ?a11 ?l11 ?c11 ?k11 ?a12 ?l12 ?c12 ?k12 ?a13 ?l13 ?c13 ?k13 ?a14 ?l14 ?c14 ?k14 ?a15 ?l15 ?c15 ?k15 ?a16 ?l16 ?c16 ?k16 ?a17 ?l17 ?c17 ?k17 ?a18 ?l18 ?c18 ?k18 ?a19 ?l19 ?c19 ?k19 ?a20 ?l20 ?c20 ?k20 ?a21 ?l21 ?c21 ?k21 ?og_Setting ?o1_Setting ?o2_Setting ?o3_Setting ?o4_Setting ?o5_Setting ?o6_Setting ?on_Setting__rect ?on_Setting_layers ?on_Setting_mode ?on_Setting_order ?on_Setting_planes ?on_Setting_tx ?on_Setting_ty ?on_Setting_word ?i1_Setting_str ?i2_Setting_str ?i3_Setting_str ?i4_Setting_str ?i5_Setting_str ?pa5 ?pb5 ?pa6 ?pb6 ?pc6 ?pd6 ?z_ValueError ?z_abs ?z_int ?z_isinstance ?z_len ?z_list ?z_max ?z_min ?z_range ?z_sorted ?z_str ?z_sum ?z_super ?z_tuple ?e_MOST_PIECES ?e_MOST_PLACE ?e_MOST_SIDE ?g_BadField ?x1_BadField ?x2_BadField ?x3_BadField ?x4_BadField ?x5_BadField ?x6_BadField ?x7_BadField ?x8_BadField ?x9_BadField ?xa_BadField ?g_BadGrid ?x0_BadGrid ?x1_BadGrid ?x2_BadGrid ?x3_BadGrid ?x4_BadGrid ?x5_BadGrid ?x6_BadGrid ?x7_BadGrid ?x8_BadGrid ?x9_BadGrid ?xa_BadGrid ?g_NarrowError ?x0_NarrowError ?x1_NarrowError ?x2_NarrowError ?x3_NarrowError ?x4_NarrowError ?x5_NarrowError ?x6_NarrowError ?x7_NarrowError ?x8_NarrowError ?x9_NarrowError ?xa_NarrowError ?g_TooMany ?x1_TooMany ?x2_TooMany ?x3_TooMany ?x4_TooMany ?x5_TooMany ?x6_TooMany ?x7_TooMany ?x8_TooMany ?x9_TooMany ?xa_TooMany ?no_BadField_name ?no_TooMany_most ?s_BadField_BadField ?s_BadField_BadGrid ?s_BadField_NarrowError ?s_BadField_TooMany ?s_BadGrid_BadField ?s_BadGrid_BadGrid ?s_BadGrid_NarrowError ?s_BadGrid_TooMany ?s_NarrowError_BadField ?s_NarrowError_BadGrid ?s_NarrowError_NarrowError ?s_NarrowError_TooMany ?s_TooMany_BadField ?s_TooMany_BadGrid ?s_TooMany_NarrowError ?s_TooMany_TooMany ?xl0 ?xr0 ?xs0 ?sm0 ?sv0 ?ss0 ?sa0 ?sl0 ?sk0 ?sf0 ?ef0 ?et0 ?pa0 ?pb0 ?xl1 ?xr1 ?xs1 ?sm1 ?sv1 ?ss1 ?sa1 ?sl1 ?sk1 ?sf1 ?ef1 ?et1 ?pa1 ?pb1 ?v_BadField ?v_BadGrid ?v_NarrowError ?v_TooMany
    (case og_Setting => k_is)
    (case pa5 => k_is)
    (case pb5 => k_is)
    (case pa6 => k_is)
    (case pb6 => k_is)
    (case pc6 => k_is)
    (case pd6 => k_is)
    (case g_BadField => k_is)
    (case g_BadGrid => k_is)
    (case g_NarrowError => k_is)
    (case g_TooMany => k_is)
    (case pa0 => k_is)
    (case pb0 => k_is)
    (case pa1 => k_is)
    (case pb1 => k_is)
    (case l0 => k_is)
    (case c0 => k_is)
    (case l1 => k_is)
    (case c1 => k_is)
    (case a2 => k_is)
    (case l2 => k_is)
    (case c2 => k_is)
    (case k2 => k_is)
    (case a3 => k_is)
    (case l3 => k_is)
    (case c3 => k_is)
    (case k3 => k_is)
    (case a4 => k_is)
    (case l4 => k_is)
    (case c4 => k_is)
    (case k4 => k_is)
    (case l5 => k_is)
    (case c5 => k_is)
    (case k5 => k_is)
    (case l6 => k_is)
    (case c6 => k_is)
    (case k6 => k_is)
    (case a7 => k_is)
    (case l7 => k_is)
    (case c7 => k_is)
    (case k7 => k_is)
    (case a8 => k_is)
    (case l8 => k_is)
    (case c8 => k_is)
    (case k8 => k_is)
    (case a9 => k_is)
    (case l9 => k_is)
    (case c9 => k_is)
    (case k9 => k_is)
    (case a10 => k_is)
    (case l10 => k_is)
    (case c10 => k_is)
    (case k10 => k_is)
    (case a11 => k_is)
    (case l11 => k_is)
    (case c11 => k_is)
    (case k11 => k_is)
    (case a12 => k_is)
    (case l12 => k_is)
    (case c12 => k_is)
    (case k12 => k_is)
    (case a13 => k_is)
    (case l13 => k_is)
    (case c13 => k_is)
    (case k13 => k_is)
    (case a14 => k_is)
    (case l14 => k_is)
    (case c14 => k_is)
    (case k14 => k_is)
    (case a15 => k_is)
    (case l15 => k_is)
    (case c15 => k_is)
    (case k15 => k_is)
    (case a16 => k_is)
    (case l16 => k_is)
    (case c16 => k_is)
    (case k16 => k_is)
    (case a17 => k_is)
    (case l17 => k_is)
    (case c17 => k_is)
    (case k17 => k_is)
    (case a18 => k_is)
    (case l18 => k_is)
    (case c18 => k_is)
    (case k18 => k_is)
    (case a19 => k_is)
    (case l19 => k_is)
    (case c19 => k_is)
    (case k19 => k_is)
    (case a20 => k_is)
    (case l20 => k_is)
    (case c20 => k_is)
    (case k20 => k_is)
    (case a21 => k_is)
    (case l21 => k_is)
    (case c21 => k_is)
    (case k21 => k_is)
    (case o1_Setting => k_is)
    (case o2_Setting => k_is)
    (case o3_Setting => k_is)
    (case o4_Setting => k_is)
    (case o5_Setting => k_is)
    (case o6_Setting => k_is)
    (case on_Setting__rect => k_is)
    (case on_Setting_layers => k_is)
    (case on_Setting_mode => k_is)
    (case on_Setting_order => k_is)
    (case on_Setting_planes => k_is)
    (case on_Setting_tx => k_is)
    (case on_Setting_ty => k_is)
    (case on_Setting_word => k_is)
    (case i1_Setting_str => k_is)
    (case i2_Setting_str => k_is)
    (case i3_Setting_str => k_is)
    (case i4_Setting_str => k_is)
    (case i5_Setting_str => k_is)
    (case z_ValueError => k_is)
    (case z_abs => k_is)
    (case z_int => k_is)
    (case z_isinstance => k_is)
    (case z_len => k_is)
    (case z_list => k_is)
    (case z_max => k_is)
    (case z_min => k_is)
    (case z_range => k_is)
    (case z_sorted => k_is)
    (case z_str => k_is)
    (case z_sum => k_is)
    (case z_super => k_is)
    (case z_tuple => k_is)
    (case e_MOST_PIECES => k_is)
    (case e_MOST_PLACE => k_is)
    (case e_MOST_SIDE => k_is)
    (case x1_BadField => k_is)
    (case x2_BadField => k_is)
    (case x3_BadField => k_is)
    (case x4_BadField => k_is)
    (case x5_BadField => k_is)
    (case x6_BadField => k_is)
    (case x7_BadField => k_is)
    (case x8_BadField => k_is)
    (case x9_BadField => k_is)
    (case xa_BadField => k_is)
    (case x0_BadGrid => k_exc)
    (case x1_BadGrid => k_is)
    (case x2_BadGrid => k_is)
    (case x3_BadGrid => k_is)
    (case x4_BadGrid => k_is)
    (case x5_BadGrid => k_is)
    (case x6_BadGrid => k_is)
    (case x7_BadGrid => k_is)
    (case x8_BadGrid => k_is)
    (case x9_BadGrid => k_is)
    (case xa_BadGrid => k_is)
    (case x0_NarrowError => k_exc)
    (case x1_NarrowError => k_is)
    (case x2_NarrowError => k_is)
    (case x3_NarrowError => k_is)
    (case x4_NarrowError => k_is)
    (case x5_NarrowError => k_is)
    (case x6_NarrowError => k_is)
    (case x7_NarrowError => k_is)
    (case x8_NarrowError => k_is)
    (case x9_NarrowError => k_is)
    (case xa_NarrowError => k_is)
    (case x1_TooMany => k_is)
    (case x2_TooMany => k_is)
    (case x3_TooMany => k_is)
    (case x4_TooMany => k_is)
    (case x5_TooMany => k_is)
    (case x6_TooMany => k_is)
    (case x7_TooMany => k_is)
    (case x8_TooMany => k_is)
    (case x9_TooMany => k_is)
    (case xa_TooMany => k_is)
    (case no_BadField_name => k_is)
    (case no_TooMany_most => k_is)
    (case s_BadField_BadField => first | rfl | k_is)
    (case s_BadField_BadGrid => first | rfl | k_is)
    (case s_BadField_NarrowError => first | rfl | k_is)
    (case s_BadField_TooMany => first | rfl | k_is)
    (case s_BadGrid_BadField => first | rfl | k_is)
    (case s_BadGrid_BadGrid => first | rfl | k_is)
    (case s_BadGrid_NarrowError => first | rfl | k_is)
    (case s_BadGrid_TooMany => first | rfl | k_is)
    (case s_NarrowError_BadField => first | rfl | k_is)
    (case s_NarrowError_BadGrid => first | rfl | k_is)
    (case s_NarrowError_NarrowError => first | rfl | k_is)
    (case s_NarrowError_TooMany => first | rfl | k_is)
    (case s_TooMany_BadField => first | rfl | k_is)
    (case s_TooMany_BadGrid => first | rfl | k_is)
    (case s_TooMany_NarrowError => first | rfl | k_is)
    (case s_TooMany_TooMany => first | rfl | k_is)
    (case xl0 => k_is)
    (case xs0 => k_is)
    (case sm0 => first | ks_is | k_is)
    (case sv0 => k_is)
    (case ss0 => k_is)
    (case sa0 => k_is)
    (case sl0 => k_is)
    (case sk0 => k_is)
    (case et0 => first | rfl | kernel_rfl)
    (case xl1 => k_is)
    (case xs1 => k_is)
    (case sm1 => first | ks_is | k_is)
    (case sv1 => k_is)
    (case ss1 => k_is)
    (case sa1 => k_is)
    (case sl1 => k_is)
    (case sk1 => k_is)
    (case et1 => first | rfl | kernel_rfl)
    (case v_BadField => k_is)
    (case v_BadGrid => k_is)
    (case v_NarrowError => k_is)
    (case v_TooMany => k_is)
    (case xr0 => first | rfl | kernel_rfl)
    (case sf0 => first | rfl | kernel_rfl)
    (case ef0 => first | rfl | kernel_rfl)
    (case xr1 => first | rfl | kernel_rfl)
    (case sf1 => first | rfl | kernel_rfl)
    (case ef1 => first | rfl | kernel_rfl)
#print axioms PySem.Challenge.cw_narrowingbits_k36_settings_refused_holds
