import PyProof.Rows.All
import Wide.All
import OpenK.AllK
import Wide.FinOn
import HandS.ForMost
import HandS.ForExc
import HandS.ExcIs
import HandS.IsInst
import HandS.TupLe
import HandS.Property
import HandS.MakeKwOnly
import HandS.ClsMeth
import HandS.ExcInit
import HandS.EndTab
import HandS.ExcField
import HandS.Nested
import HandS.Replace
import HandS.Codes
import HandS.Wide
import HandS.Style
import HandS.FStr
import HandS.StrMore
import HandS.WideBits
import HandS.Walk
import KE.KSuper
import KE.KExcSuper
import KE.KExcIs
import PyProof.Rows.StrIntSpec
import PyProof.FString3
import PyProof.Rows.FStr
import PySem.Challenge.RW_narrowingbits_k11_told_grows_with_bits
set_option Elab.async false
set_option maxRecDepth 100000
set_option maxHeartbeats 4000000
namespace NB
open PySem L2
/-! ### the frozen part, the steps -/
/-- from (F, H) to (F', H'): F is what stands still, H the whole; S: the cells that may be written -/
structure Stp (S : Addr → Prop) (F H F' H' : Hp) : Prop where
  ff : Same F F'
  fh : Same F' H'
  fo : ∀ b o, H b = some o → F' b = F b
  keep : ∀ b o, ¬ S b → H b = some o → H' b = some o
  dom : ∀ b o, H b = some o → ∃ o', H' b = some o'
abbrev S0 : Addr → Prop := fun _ => False
abbrev S1 (p : Addr) : Addr → Prop := fun b => b = p
section
variable {S S' : Addr → Prop} {F H F1 H1 F2 H2 : Hp} {p : Addr} {o o' : HO}
theorem Stp.rfl' (h : Same F H) : Stp S F H F H := ⟨Same.refl F, h, fun _ _ _ => rfl, fun _ _ _ e => e, fun _ o e => ⟨o, e⟩⟩
theorem Stp.trans (a : Stp S F H F1 H1) (b : Stp S F1 H1 F2 H2) : Stp S F H F2 H2 :=
  ⟨a.ff.trans b.ff, b.fh, fun c o e => by
    obtain ⟨o', e'⟩ := a.dom c o e
    rw [b.fo c o' e', a.fo c o e], fun c o n e => b.keep c o n (a.keep c o n e), fun c o e => by
    obtain ⟨o', e'⟩ := a.dom c o e
    exact b.dom c o' e'⟩
theorem Stp.sub (i : ∀ b, S b → S' b) (a : Stp S F H F1 H1) : Stp S' F H F1 H1 := ⟨a.ff, a.fh, a.fo, fun b o n e => a.keep b o (fun z => n (i b z)) e, a.dom⟩
theorem Stp.up (a : Stp S0 F H F1 H1) : Stp S F H F1 H1 := a.sub fun _ z => z.elim
theorem Stp.same (a : Stp S0 F H F1 H1) : Same H H1 := fun b o e => a.keep b o (fun z => z) e
/-- a new thing that will never change -/
theorem Stp.new (h : Same F H) (hp : H p = none) : Stp S F H (upd F p o) (upd H p o) := by
  have fp : F p = none := h.free hp
  refine ⟨fun b u e => ?_, fun b u e => ?_, fun b u e => ?_, fun b u _ e => ?_, fun b u e => ⟨u, ?_⟩⟩
  · rw [upd_ne (ne_of_none e fp)]; exact e
  · by_cases q : b = p
    · subst q; rw [upd_same] at e ⊢; exact e
    · rw [upd_ne q] at e ⊢; exact h b u e
  · rw [upd_ne (ne_of_none e hp)]
  · rw [upd_ne (ne_of_none e hp)]; exact e
  · rw [upd_ne (ne_of_none e hp)]; exact e
/-- a new cell -/
theorem Stp.cell (h : Same F H) (hp : H p = none) : Stp S F H F (upd H p o) :=
  ⟨Same.refl F, fun b u e => by rw [upd_ne (ne_of_none (h b u e) hp)]; exact h b u e, fun _ _ _ => rfl, fun b u _ e => by rw [upd_ne (ne_of_none e hp)]; exact e, fun b u e => ⟨u, by rw [upd_ne (ne_of_none e hp)]; exact e⟩⟩
/-- a cell written -/
theorem Stp.wr (h : Same F H) (hs : S p) (fp : F p = none) : Stp S F H F (upd H p o) :=
  ⟨Same.refl F, fun b u e => by
    have n : b ≠ p := fun q => by rw [q, fp] at e; cases e
    rw [upd_ne n]; exact h b u e, fun _ _ _ => rfl, fun b u n e => by
    have q : b ≠ p := fun z => n (z ▸ hs)
    rw [upd_ne q]; exact e, fun b u e => by
    by_cases q : b = p
    · exact ⟨o, by rw [q, upd_same]⟩
    · exact ⟨u, by rw [upd_ne q]; exact e⟩⟩
/-- a cell that was made here is written -/
theorem Stp.wrNew (a : Stp S F H F1 H1) (hn : H p = none) (fp : F1 p = none) : Stp S F H F1 (upd H1 p o) :=
  ⟨a.ff, fun b u e => by
    have n : b ≠ p := fun q => by rw [q, fp] at e; cases e
    rw [upd_ne n]; exact a.fh b u e, a.fo, fun b u n e => by
    rw [upd_ne (ne_of_none e hn)]; exact a.keep b u n e, fun b u e => by
    rw [upd_ne (ne_of_none e hn)]; exact a.dom b u e⟩
/-- a cell that was made here stands still from now on -/
theorem Stp.freeze (a : Stp S F H F1 H1) (hn : H p = none) (hp : H1 p = some o) (fp : F1 p = none) : Stp S F H (upd F1 p o) H1 :=
  ⟨fun b u e => by
    have e1 := a.ff b u e
    rw [upd_ne (ne_of_none e1 fp)]; exact e1, fun b u e => by
    by_cases q : b = p
    · subst q; rw [upd_same] at e; cases e; exact hp
    · rw [upd_ne q] at e; exact a.fh b u e, fun b u e => by
    rw [upd_ne (ne_of_none e hn)]; exact a.fo b u e, a.keep, a.dom⟩
theorem Stp.free (a : Stp S F H F1 H1) (hp : H p = some o) (fp : F p = none) : F1 p = none := (a.fo p o hp).trans fp
end
/-! ### a def that stands, with its promise -/
structure Fn (P : Program) (w : World) (K : PySem.W.Frag) (mg : Str → Option Value) (base : Heap) (CX : CXT) (k : Nat) (nm : Str) (st : Stmt) (f : Addr) (fd : FuncData) (ps : List Str) (sp : Sp) : Prop where
  G : FnOk P w K mg base CX k f fd ps sp
  m : mg nm = some (.ref f)
  kp : PySem.W.keepIn K (.ref f) = true
  b : Binds K fd ps []
  F : Fun K nm nm st f fd
/-! ### keywords -/
def gK {α : Type} (n m : Nat) (us ws : List α) : List α := if us.length = n ∧ ws.length = m then us ++ ws else []
theorem _root_.L2.Fun.kbinds {K : PySem.W.Frag} {x qual : Str} {st : Stmt} {f : Addr} {fd : FuncData} {ps : List Str} (F : Fun K x qual st f fd) (n : Nat) (ks : List Str) (hn : 0 < ps.length)
    (h : ∀ (kV doc pm : Value) (an : Option Addr) (cdv ct : Value) (us ws : List Value), us.length = n → ws.length = ks.length → bindArgs (PySem.W.fnOf x qual (defArgs st) (defBody st) (defScope st) .none kV doc pm an cdv ct) ⟨us, ks.zip ws⟩ = pure (ps.zip (us ++ ws))) :
    KBinds K fd ps ks (gK n ks.length) (gK n ks.length) := by
  obtain ⟨oc, od, kV, doc, pm, an, cdv, ct, osl, rfl, lk, hcd⟩ := F.ex
  refine ⟨fun s us ws _ hl => ?_, fun {vs us zs ws} r rz => ?_⟩
  · by_cases c : us.length = n ∧ ws.length = ks.length
    · have e : gK n ks.length us ws = us ++ ws := if_pos c
      rw [e]
      exact .of_eq (h kV doc pm an cdv ct us ws c.1 c.2)
    · have e : gK n ks.length us ws = [] := if_neg c
      rw [e] at hl
      exact absurd hl (by show ¬ 0 = ps.length; omega)
  · unfold gK
    by_cases c : us.length = n ∧ ws.length = ks.length
    · have c' : vs.length = n ∧ zs.length = ks.length := ⟨r.length.trans c.1, rz.length.trans c.2⟩
      rw [if_pos c, if_pos c']
      exact r.append rz
    · have c' : ¬ (vs.length = n ∧ zs.length = ks.length) := fun z => c ⟨r.length.symm.trans z.1, rz.length.symm.trans z.2⟩
      rw [if_neg c, if_neg c']
      exact .nil
def tCallK0 (sp : Sp) (gV : List V → List V → List V) (E : XK) (tk : TA) : TE := fun σ H Q => tk σ H fun zs H2 => sp (gV [] zs) H2 Q E
theorem pe_callK0 {X : Cx} {CX : CXT} {k : Nat} {f : Addr} {fd : FuncData} {ps ks : List Str} {sp : Sp} {E : XK} {x : Str} {p pos : Pos} {kws : List Keyword} {tk : TA} {g : List Value → List Value → List Value} {gV : List V → List V → List V}
    (F : FnOk X.prog X.w X.K X.mg X.base CX k f fd ps sp) (hr : Room k X.A) (hg : Gl X x) (hm : X.mg x = some (.ref f)) (hk : PySem.W.keepIn X.K (.ref f) = true) (hb : KBinds X.K fd ps ks g gV) (hx : Passes CX X E) (hkw : PK X kws tk)
    (hall : (backToKw pos (keywordEach kws X.env)).all (·.1.isSome) = true := by rfl) (hks : (backToKw pos (keywordEach kws X.env)).filterMap (·.1) = ks := by rfl) (hdb : (x == ("__debug__" : Str)) = false := by decide)
    (hpl : ((backTo pos (starEach [] X.env)).any (·.1) || (backToKw pos (keywordEach kws X.env)).any (·.1.isNone)) = false := by rfl) : PE X (.Call (.Name x p) [] kws pos) (tCallK0 sp gV E tk) := by
  refine ⟨fun pins s σ H Q I h => ?_⟩
  refine wpAny_Call_Name_kw (ld_glob I hg hm ?_ hdb)
  refine PySem.W.callWith_KW0 (h₀ := X.base) I.ok.mod.kin hk hall ?_ hpl
  refine thn (hkw.run pos pins s σ H _ I h) fun ws s2 ⟨zs, H2, I2, rz, q2⟩ => ⟨I2.kIn, ?_⟩
  rw [hks]
  exact run_fnk F hr hb hx I2 .nil rz q2
def SpN (n : Nat) (s : Sp) : Sp := fun vs H Q E => vs.length = n ∧ s vs H Q E
/-! ### rules under names -/
def rInt1 : List V → Hp → VK → Prop := fun xs H Q => (∃ i, xs = [.int i] ∧ Q (.int i) H) ∨ ∃ k, xs = [.bl k] ∧ Q (.int (if k then 1 else 0)) H
def rMax2 : List V → Hp → VK → Prop := fun xs H Q => ∃ i j, xs = [.int i, .int j] ∧ Q (.int (if j > i then j else i)) H
def rMin2 : List V → Hp → VK → Prop := fun xs H Q => ∃ i j, xs = [.int i, .int j] ∧ Q (.int (if j < i then j else i)) H
def rLen (K : PySem.W.Frag) : List V → Hp → VK → Prop := fun xs H Q => ∃ p ys, xs = [.ref p] ∧ (SqL K H p ys ∨ SqT K H p ys) ∧ Q (.int ys.length) H
section
variable {X : Cx}
theorem c_int1 : CallR X (.type "int") rInt1 := call_int1
theorem c_max2 (hc : X.calm = true) : CallR X (.builtin "max") rMax2 := call_max2 hc
theorem c_min2 (hc : X.calm = true) : CallR X (.builtin "min") rMin2 := call_min2 hc
theorem c_len (K : PySem.W.Frag) (e : X.K = K) : CallR X (.builtin "len") (rLen K) := by subst e; exact call_len_seq
theorem c_isi (K : PySem.W.Frag) (e : X.K = K) : CallR X (.builtin "isinstance") (rIsi K) := by subst e; exact call_isi
theorem i_list (K : PySem.W.Frag) (e : X.K = K) : IxR X (rIxL K) := by subst e; exact ix_list
theorem i_tup (K : PySem.W.Frag) (e : X.K = K) : IxR X (rIxT K) := by subst e; exact ix_tup
theorem o_and1 : OpR X (binaryOp .BitAnd) (fun x y H Q => ∃ i : Int, x = .int i ∧ y = .int 1 ∧ Q (.int (i % 2)) H) := by
  intro pins s σ H x y v u Q I rx ry h
  obtain ⟨i, rfl, rfl, q⟩ := h
  exact op_andM pins s σ H _ _ v u Q I rx ry ⟨i, 1, rfl, rfl, by simpa using q⟩
theorem l_list (K : PySem.W.Frag) (e : X.K = K) : SlR X (rSlL K) := by subst e; exact sl_list
theorem o_in (K : PySem.W.Frag) (e : X.K = K) : OpR X (compareOp .In) (rIn K false) := by subst e; exact op_in_seq
theorem o_notIn (K : PySem.W.Frag) (e : X.K = K) : OpR X (compareOp .NotIn) (rIn K true) := by subst e; exact op_notIn_seq
def rDivmod : List V → Hp → VK → Prop := fun xs H Q => ∃ i j, xs = [.int i, .int j] ∧ CDiv i j ∧ ∀ p, H p = none → Q (.ref p) (upd H p (.tup [.int (i / j), .int (i % j)]))
theorem c_divmod : CallR X (.builtin "divmod") rDivmod := call_divmod
theorem o_eqD (K : PySem.W.Frag) (e : X.K = K) (hu : X.A.units + 64 < cLine) : OpR X (compareOp .Eq) (rEqD K) := by subst e; exact op_eqD hu
theorem o_neD (K : PySem.W.Frag) (e : X.K = K) (hu : X.A.units + 64 < cLine) : OpR X (compareOp .NotEq) (rNeD K) := by subst e; exact op_neD hu
end
theorem sz {n : Nat} (h : n ≤ 100000) : n ≤ sizeLine := Nat.le_trans h (by decide)
/-! ### readings, step by step -/
section
variable {X : Cx} {K : PySem.W.Frag} {σ : L2.St} {H F : Hp} {Q : VK} {i : Nat} {v x y : V} {ta tb : TE} {r : R2}
theorem s_var (h : σ[i]? = some (some v)) (q : Q v H) : tVar i σ H Q := ⟨v, h, q⟩
theorem s_c (q : Q v H) : tC v σ H Q := q
theorem s_op (h : ta σ H fun x H1 => tb σ H1 fun y H2 => r x y H2 Q) : tOp r ta tb σ H Q := h
theorem s_I0 {g : Int → Int → V} {i j : Int} (q : Q (g i j) H) : rI0 g (.int i) (.int j) H Q := ⟨i, j, rfl, rfl, q⟩
theorem s_I {C : Int → Int → Prop} {g : Int → Int → V} {i j : Int} (c : C i j) (q : Q (g i j) H) : rI C g (.int i) (.int j) H Q := ⟨i, j, rfl, rfl, c, q⟩
theorem s_eq (h : scal x y = true) (q : Q (.bl (decide (x = y))) H) : rEq x y H Q := ⟨h, q⟩
theorem dec_int (i j : Int) : decide (V.int i = V.int j) = decide (i = j) := by by_cases h : i = j <;> simp [h]
theorem dec_str (i j : Str) : decide (V.str i = V.str j) = decide (i = j) := by by_cases h : i = j <;> simp [h]
theorem s_eqI {i j : Int} (q : Q (.bl (decide (i = j))) H) : rEq (.int i) (.int j) H Q := ⟨rfl, by rw [dec_int]; exact q⟩
theorem s_neI {i j : Int} (q : Q (.bl (!decide (i = j))) H) : rNe (.int i) (.int j) H Q := ⟨rfl, by rw [dec_int]; exact q⟩
theorem s_eqS {i j : Str} (q : Q (.bl (decide (i = j))) H) : rEq (.str i) (.str j) H Q := ⟨rfl, by rw [dec_str]; exact q⟩
theorem s_neS {i j : Str} (q : Q (.bl (!decide (i = j))) H) : rNe (.str i) (.str j) H Q := ⟨rfl, by rw [dec_str]; exact q⟩
theorem s_chain {r' : R2} {tc : TE} (h : ta σ H fun x H1 => tb σ H1 fun y H2 => r x y H2 fun z H3 => ∃ k, z = .bl k ∧ if k = true then tc σ H3 fun u H4 => r' y u H4 Q else Q (.bl false) H3) : tChain r r' ta tb tc σ H Q := by
  unfold tChain; exact h
theorem s_par3 {i j l : Nat} {ta : TA} {D : Ends} (h : ta σ H fun vs H1 => ∃ u v w, vs = [u, v, w] ∧ D.nx (((σ.set i (some u)).set j (some v)).set l (some w)) H1) : tPar3 i j l ta D σ H := h
theorem s_par {i j : Nat} {ta : TA} {D : Ends} (h : ta σ H fun vs H1 => ∃ v w, vs = [v, w] ∧ D.nx ((σ.set i (some v)).set j (some w)) H1) : tPar i j ta D σ H := h
theorem s_v2 {x y : V} {R : V → V → Prop} (h : R x y) : ∃ a b, [x, y] = [a, b] ∧ R a b := ⟨x, y, rfl, h⟩
theorem s_v3 {x y z : V} {R : V → V → V → Prop} (h : R x y z) : ∃ a b c, [x, y, z] = [a, b, c] ∧ R a b c := ⟨x, y, z, rfl, h⟩
theorem s_tup {t : TA} (h : t σ H fun xs H1 => xs.length ≤ sizeLine ∧ ∀ p, H1 p = none → Q (.ref p) (upd H1 p (.tup xs))) : tTup t σ H Q := h
theorem s_lst {t : TA} (h : t σ H fun xs H1 => xs.length ≤ sizeLine ∧ ∀ p, H1 p = none → Q (.ref p) (upd H1 p (.lst xs))) : tLst t σ H Q := h
theorem s_nil {Q : List V → Hp → Prop} (q : Q [] H) : tNil σ H Q := q
theorem s_cons {t : TA} {Q : List V → Hp → Prop} (h : ta σ H fun x H1 => t σ H1 fun xs H2 => Q (x :: xs) H2) : tCons ta t σ H Q := h
theorem s_call {sp : Sp} {dvs : List V} {E : XK} {t : TA} (h : t σ H fun vs H1 => sp (vs ++ dvs) H1 Q E) : tCall sp dvs E t σ H Q := h
theorem s_callK0 {sp : Sp} {gV : List V → List V → List V} {E : XK} {t : TA} (h : t σ H fun zs H1 => sp (gV [] zs) H1 Q E) : tCallK0 sp gV E t σ H Q := h
theorem s_callK {sp : Sp} {gV : List V → List V → List V} {E : XK} {t tk : TA} (h : t σ H fun vs H1 => tk σ H1 fun zs H2 => sp (gV vs zs) H2 Q E) : tCallK sp gV E t tk σ H Q := h
theorem s_bits (h : ta σ H fun x H1 => ∃ i, x = .int i ∧ Q (.int (Builtin.Int.intBits i : Nat)) H1) : tBits ta σ H Q := h
theorem s_i {i : Int} {R : Int → Prop} (h : R i) : ∃ j, V.int i = V.int j ∧ R j := ⟨i, rfl, h⟩
theorem s_bm {T : String} {r : V → List V → Hp → VK → Prop} {to : TE} {t : TA} (h : to σ H fun x H1 => tyV K T x H1 ∧ t σ H1 fun xs H2 => r x xs H2 Q) : tBM K T r to t σ H Q := h
theorem s_bm0 {T : String} {r : V → List V → Hp → VK → Prop} {to : TE} (h : to σ H fun x H1 => tyV K T x H1 ∧ r x [] H1 Q) : tBM0 K T r to σ H Q := h
theorem s_m1 {r : V → List V → Hp → VK → Prop} (h : ta σ H fun x H1 => (∃ a, x = .str a) ∧ tb σ H1 fun y H2 => r x [y] H2 Q) : tM1 r ta tb σ H Q := h
theorem s_cb {r : List V → Hp → VK → Prop} {t : TA} (h : t σ H fun vs H1 => r vs H1 Q) : tCB r t σ H Q := h
theorem s_test {Q : Bool → Hp → Prop} {t : TE} (h : t σ H fun x H' => ∃ k, x = .bl k ∧ Q k H') : tTest t σ H Q := h
theorem s_tB {Q : Bool → Hp → Prop} {t : TE} (h : t σ H fun x H' => ∃ k, x = .bl k ∧ Q k H') : tB t σ H Q := h
theorem s_bl {k : Bool} {Q : Bool → Hp → Prop} (q : Q k H) : ∃ k', V.bl k = .bl k' ∧ Q k' H := ⟨k, rfl, q⟩
theorem s_not {Q : Bool → Hp → Prop} {t : TT} (h : t σ H fun c H1 => Q (!c) H1) : tNot t σ H Q := h
theorem s_and {Q : Bool → Hp → Prop} {t u : TT} (h : t σ H fun c H1 => if c = true then u σ H1 Q else Q false H1) : tAnd t u σ H Q := h
theorem s_or {Q : Bool → Hp → Prop} {t u : TT} (h : t σ H fun c H1 => if c = true then Q true H1 else u σ H1 Q) : tOr t u σ H Q := h
theorem s_un {r : V → Hp → VK → Prop} (h : ta σ H fun x H1 => r x H1 Q) : tUn r ta σ H Q := h
theorem s_U {g : Int → V} {i : Int} (q : Q (g i) H) : rU g (.int i) H Q := ⟨i, rfl, q⟩
theorem s_int1 {i : Int} (q : Q (.int i) H) : rInt1 [.int i] H Q := .inl ⟨i, rfl, q⟩
theorem s_int1b {b : Bool} (q : Q (.int (if b then 1 else 0)) H) : rInt1 [.bl b] H Q := .inr ⟨b, rfl, q⟩
theorem s_ixL {p : Addr} {xs : List V} {i : Int} (h : SqL K H p xs) (a : atI xs i = some v) (q : Q v H) : rIxL K (.ref p) (.int i) H Q := ⟨p, xs, i, v, rfl, rfl, h, a, q⟩
theorem s_ixT {p : Addr} {xs : List V} {i : Int} (h : SqT K H p xs) (a : atI xs i = some v) (q : Q v H) : rIxT K (.ref p) (.int i) H Q := ⟨p, xs, i, v, rfl, rfl, h, a, q⟩
theorem s_len {p : Addr} {xs : List V} (h : SqL K H p xs) (q : Q (.int xs.length) H) : rLen K [V.ref p] H Q := ⟨p, xs, rfl, .inl h, q⟩
theorem s_lenT {p : Addr} {xs : List V} (h : SqT K H p xs) (q : Q (.int xs.length) H) : rLen K [V.ref p] H Q := ⟨p, xs, rfl, .inr h, q⟩
theorem s_max2 {i j : Int} (q : Q (.int (if j > i then j else i)) H) : rMax2 [.int i, .int j] H Q := ⟨i, j, rfl, q⟩
theorem s_min2 {i j : Int} (q : Q (.int (if j < i then j else i)) H) : rMin2 [.int i, .int j] H Q := ⟨i, j, rfl, q⟩
theorem s_isi {v : V} {n : String} {t : String} {b : Bool} (h : TyX K H v (.type t)) (e : kitB t n = some b) (q : Q (.bl b) H) : rIsi K [v, .ty n] H Q := ⟨v, .ty n, .type t, .type n, b, rfl, .ty n, h, kit_ty e, q⟩
theorem s_eqD {d e : PyData} (h1 : Dp K H x d) (h2 : Dp K H y e) (s1 : SeqAt.shaped d = true) (s2 : SeqAt.shaped e = true) (q : Q (.bl (PyData.eqv d e)) H) : rEqD K x y H Q := ⟨d, e, h1, h2, s1, s2, q⟩
theorem s_andV {c : Bool} (h : if c = true then tb σ H Q else Q (.bl false) H) : ∃ c', V.bl c = .bl c' ∧ if c' = true then tb σ H Q else Q (.bl false) H := ⟨c, rfl, h⟩
theorem s_andV0 (h : ta σ H fun x H1 => ∃ c, x = .bl c ∧ if c = true then tb σ H1 Q else Q (.bl false) H1) : tAndV ta tb σ H Q := h
theorem s_orV0 (h : ta σ H fun x H1 => ∃ c, x = .bl c ∧ if c = true then Q (.bl true) H1 else tb σ H1 Q) : tOrV ta tb σ H Q := h
theorem s_notV (h : ta σ H fun x H1 => ∃ c, x = .bl c ∧ Q (.bl (!c)) H1) : tNotV ta σ H Q := h
theorem s_b {c : Bool} {R : Bool → Prop} (h : R c) : ∃ c', V.bl c = V.bl c' ∧ R c' := ⟨c, rfl, h⟩
theorem s_gtup {n : Nat} {t : TGs} {a : Addr} {xs : List V} {R : L2.St → Hp → Prop} (h : SqT K H a xs) (e : xs.length = n) (q : t xs σ H R) : gTup K n t (.ref a) σ H R := ⟨a, xs, rfl, h, e, q⟩
theorem s_gcons {t : TG} {u : TGs} {r : List V} {R : L2.St → Hp → Prop} (q : t v σ H fun σ' H' => u r σ' H' R) : gCons t u (v :: r) σ H R := ⟨v, r, rfl, q⟩
theorem s_gnil {R : L2.St → Hp → Prop} (q : R σ H) : gNil [] σ H R := ⟨rfl, q⟩
theorem s_gsub {to ti : TE} {t : TSet} {R : L2.St → Hp → Prop} (h : to σ H fun o H1 => ti σ H1 fun i H2 => t o i v H2 fun H3 => R σ H3) : gSub to ti t v σ H R := h
theorem s_setL {p : Addr} {xs : List V} {i : Int} {j : Nat} {R : Hp → Prop} (h : H p = some (.lst xs)) (e : ixN xs.length i = some j) (q : R (upd H p (.lst (xs.set j v)))) : rSetL (.ref p) (.int i) v H R := ⟨p, xs, i, j, rfl, rfl, h, e, q⟩
theorem s_ifE {t : TT} (h : t σ H fun c H1 => if c = true then ta σ H1 Q else tb σ H1 Q) : tIf t ta tb σ H Q := h
variable {D : Ends} {t u : TS}
theorem s_seq (h : t { D with nx := u D } σ H) : tSeq t u D σ H := h
theorem s_next (h : D.nx σ H) : tNext D σ H := h
theorem s_asg {g : TG} (h : ta σ H fun x H1 => g x σ H1 D.nx) : tAsg ta g D σ H := h
theorem s_gname {R : L2.St → Hp → Prop} (h : R (σ.set i (some v)) H) : gName i v σ H R := h
theorem s_ret (h : ta σ H D.rt) : tRet ta D σ H := h
theorem s_if {c : TT} (h : c σ H fun b H1 => if b = true then t D σ H1 else u D σ H1) : tIfS c t u D σ H := h
theorem s_drop (h : ta σ H fun _ H1 => D.nx σ H1) : tDrop ta D σ H := h
/-- a loop over what stands -/
def forT (J : It) (g : TG) (tb : TS) : TS := tFor (fun _ H R => R J H) g tb
theorem s_for {wi : TI} {g : TG} {tb : TS} (h : wi σ H fun J H1 => forT J g tb D σ H1) : tFor wi g tb D σ H := h
theorem s_iR1 {ta : TA} {R : It → Hp → Prop} (h : ta σ H fun vs H1 => ∃ n : Int, vs = [.int n] ∧ -(2 ^ 62) ≤ n ∧ n < 2 ^ 62 ∧ R (Itr 0 n.toNat) H1) : iRng1 ta σ H R := h
theorem s_iR2 {ta : TA} {R : It → Hp → Prop} (h : ta σ H fun vs H1 => ∃ m n : Int, vs = [.int m, .int n] ∧ (-(2 ^ 62) ≤ m ∧ m < 2 ^ 62 ∧ -(2 ^ 62) ≤ n ∧ n < 2 ^ 62) ∧ R (Itr m (n - m).toNat) H1) : iRng2 ta σ H R := h
theorem s_iL {R : It → Hp → Prop} (h : ta σ H fun x H1 => ∃ a, x = .ref a ∧ (∃ xs, SqL K H1 a xs) ∧ R (Itl K a) H1) : iList K ta σ H R := h
theorem s_iT {R : It → Hp → Prop} (h : ta σ H fun x H1 => ∃ a, x = .ref a ∧ (∃ xs, SqT K H1 a xs) ∧ R (Itt K a) H1) : iTup K ta σ H R := h
theorem s_iS {R : It → Hp → Prop} (h : ta σ H fun x H1 => ∃ z, x = .str z ∧ R (Its z) H1) : iStr ta σ H R := h
theorem forW {J : It} {n : Nat} {G : Hp → Prop} {Y : Nat → Hp → V → Hp → Prop} {g : TG} {tb : TS} (w : Walk J n G Y) (Pv : Nat → L2.St → Hp → Prop) (h0 : Pv 0 σ H) (hG : ∀ i σ H, i ≤ n → Pv i σ H → G H)
    (hs : ∀ i x σ H H', i < n → Pv i σ H → Y i H x H' → g x σ H' fun σ2 H2 => tb { D with nx := Pv (i + 1), ct := Pv (i + 1), bk := D.nx } σ2 H2) (hd : ∀ σ H, Pv n σ H → D.nx σ H) : forT J g tb D σ H := for_it w Pv h0 hG hs hd
theorem forR {lo : Int} {n : Nat} {g : TG} {tb : TS} (Pv : Nat → L2.St → Hp → Prop) (h0 : Pv 0 σ H) (hs : ∀ i σ H, i < n → Pv i σ H → g (.int (lo + i)) σ H fun σ2 H2 => tb { D with nx := Pv (i + 1), ct := Pv (i + 1), bk := D.nx } σ2 H2)
    (hd : ∀ σ H, Pv n σ H → D.nx σ H) : forT (Itr lo n) g tb D σ H := for_range Pv h0 hs hd
theorem forL {a : Addr} {xs : List V} {g : TG} {tb : TS} (Pv : Nat → L2.St → Hp → Prop) (h0 : Pv 0 σ H) (hl : ∀ i σ H, i ≤ xs.length → Pv i σ H → SqL K H a xs)
    (hs : ∀ i x σ H, xs[i]? = some x → Pv i σ H → g x σ H fun σ2 H2 => tb { D with nx := Pv (i + 1), ct := Pv (i + 1), bk := D.nx } σ2 H2) (hd : ∀ σ H, Pv xs.length σ H → D.nx σ H) : forT (Itl K a) g tb D σ H := for_list Pv h0 hl hs hd
/-- a comprehension over what stands -/
def lcT (J : It) (g : TG) (tt : TT) (te : TE) (vs : List Nat) : TE := tLc (fun _ H R => R J H) g tt te vs
theorem s_lc {wi : TI} {g : TG} {tt : TT} {te : TE} {vs : List Nat} (h : wi σ H fun J H1 => lcT J g tt te vs σ H1 Q) : tLc wi g tt te vs σ H Q := h
theorem s_sl {r : V → Option Int → Option Int → Hp → VK → Prop} {tl th : TO} (h : ta σ H fun x H1 => tl σ H1 fun l H2 => th σ H2 fun u H3 => r x l u H3 Q) : tSl r ta tl th σ H Q := h
theorem s_part {R : Option Int → Hp → Prop} (h : ta σ H fun x H1 => ∃ i, x = .int i ∧ R (some i) H1) : tPart ta σ H R := h
theorem s_nopart {R : Option Int → Hp → Prop} (h : R none H) : tNoPart σ H R := h
theorem s_slL {p : Addr} {xs : List V} {l u : Option Int} (h : SqL K H p xs) (q : ∀ p', H p' = none → Q (.ref p') (upd H p' (.lst (cutV xs l u)))) : rSlL K (.ref p) l u H Q := ⟨p, xs, rfl, h, q⟩
theorem s_iR3 {ta : TA} {R : It → Hp → Prop} (h : ta σ H fun vs H1 => ∃ (i j c : Int) (n : Nat), vs = [.int i, .int j, .int c] ∧ RgC i j c n ∧ R (Itc i c n) H1) : iRng3 ta σ H R := h
theorem rgc_up {L k : Int} (hL : 0 ≤ L) (hL2 : L < 2 ^ 62) (hk : 0 < k) (hk2 : k < 1073741824) : RgC 0 L k ((L + k - 1) / k).toNat := by
  have e : Builtin.Range.rangeSize 0 L k = (((L + k - 1) / k).toNat : Int) := by
    unfold Builtin.Range.rangeSize
    rw [if_pos hk]
    have h0 : 0 ≤ (L + k - 1) / k := Int.ediv_nonneg (by omega) (by omega)
    split
    · rw [show L + k - 1 = (L - 0 - 1) + k by omega, Int.add_ediv_of_dvd_right (Int.dvd_refl k), Int.ediv_self (by omega)]
      have : 0 ≤ (L - 0 - 1) / k := Int.ediv_nonneg (by omega) (by omega)
      omega
    · have : L = 0 := by omega
      subst this
      rw [Int.ediv_eq_zero_of_lt (by omega) (by omega)]; rfl
  refine ⟨by omega, by omega, ?_, e⟩
  have hb : (L + k - 1) / k ≤ L + k - 1 := Int.ediv_le_self _ (by omega)
  unfold Builtin.Range.small
  rw [e]
  simp only [Builtin.Range.rangeFitsLong, Bool.and_eq_true, Bool.or_eq_true, decide_eq_true_eq, beq_iff_eq, show (k > 0) = True from eq_true hk, if_true]
  omega
theorem s_wipe {σ2 : L2.St} {vs : List Nat} {R : Prop} (h : wipe σ2 vs = wipe σ vs) (q : R) : wipe σ2 vs = wipe σ vs ∧ R := ⟨h, q⟩
theorem s_yes {Q : Bool → Hp → Prop} (q : Q true H) : tYes σ H Q := q
/-- within a comprehension: what has been made so far stands at D -/
structure LcP (S : Addr → Prop) (F H : Hp) (Dd : Addr) (R : Nat → List V → Hp → Hp → Prop) (i : Nat) (Hc : Hp) : Prop where
  ex : ∃ Fc acc, Stp S F H Fc Hc ∧ Fc Dd = none ∧ Hc Dd = some (.lst acc) ∧ acc.length ≤ i ∧ R i acc Fc Hc
  fresh : H Dd = none
theorem lcW {J : It} {n : Nat} {G : Hp → Prop} {Y : Nat → Hp → V → Hp → Prop} {g : TG} {tt : TT} {te : TE} {vs : List Nat} (w : Walk J n G Y) (S : Addr → Prop) (hF : Same F H) (hS : ∀ b, S b → ∃ o, H b = some o)
    (hG : ∀ F1 H1, Stp S F H F1 H1 → G H1) (R : Nat → List V → Hp → Hp → Prop) (hR : ∀ i acc F1 H1 d o, ¬ S d → F1 d = none → Stp S F H F1 H1 → R i acc F1 H1 → R i acc F1 (upd H1 d o)) (h0 : R 0 [] F H)
    (hs : ∀ i x acc d F1 H1 H2, i < n → Y i H1 x H2 → H d = none → ¬ S d → Stp S F H F1 H1 → F1 d = none → H1 d = some (.lst acc) → acc.length ≤ i → R i acc F1 H1 → g x (wipe σ vs) H2 fun σ2 H3 => wipe σ2 vs = wipe σ vs ∧ tt σ2 H3 fun b H4 =>
      if b = true then te σ2 H4 fun y H5 => ∃ acc', H5 d = some (.lst acc') ∧ acc'.length < sizeLine ∧ LcP S F H d R (i + 1) (upd H5 d (.lst (acc' ++ [y]))) else LcP S F H d R (i + 1) H4)
    (hd : ∀ d acc F0 F1 H1, Stp S F H F0 H1 → H d = none → F0 d = none → F1 = upd F0 d (.lst acc) → Stp S F H F1 H1 → acc.length ≤ n → R n acc F0 H1 → Q (.ref d) H1) : lcT J g tt te vs σ H Q := by
  intro d hd0
  have nS : ¬ S d := fun z => by
    obtain ⟨o, e⟩ := hS d z
    rw [hd0] at e; cases e
  refine lc_it w (LcP S F H d R) ⟨⟨F, [], Stp.cell hF hd0, hF.free hd0, upd_same, Nat.le_refl _, hR 0 [] F H d _ nS (hF.free hd0) (.rfl' hF) h0⟩, hd0⟩ (fun i H1 _ p => ?_) (fun i x H1 H2 hi p y => ?_) (fun H1 p => ?_)
  · obtain ⟨⟨Fc, acc, st, _⟩, _⟩ := p
    exact hG _ _ st
  · obtain ⟨⟨Fc, acc, st, f0, e, hl, r⟩, _⟩ := p
    exact hs i x acc d Fc H1 H2 hi y hd0 nS st f0 e hl r
  · obtain ⟨⟨Fc, acc, st, f0, e, hl, r⟩, _⟩ := p
    exact hd d acc Fc _ H1 st hd0 f0 rfl (st.freeze hd0 e f0) hl r
theorem lc_end {S : Addr → Prop} {R : Nat → List V → Hp → Hp → Prop} {i : Nat} {acc : List V} {d : Addr} {F1 H1 F4 H4 : Hp} {y : V} (hN : H d = none) (nS : ¬ S d) (st : Stp S F H F1 H1) (f0 : F1 d = none) (e : H1 d = some (.lst acc)) (hl : acc.length ≤ i) (hi : i < 100000)
    (s4 : Stp S F1 H1 F4 H4) (r : R (i + 1) (acc ++ [y]) F4 (upd H4 d (.lst (acc ++ [y])))) : ∃ acc', H4 d = some (.lst acc') ∧ acc'.length < sizeLine ∧ LcP S F H d R (i + 1) (upd H4 d (.lst (acc' ++ [y]))) :=
  ⟨acc, s4.keep _ _ nS e, Nat.lt_of_lt_of_le (Nat.lt_of_le_of_lt hl hi) (by decide), ⟨⟨F4, acc ++ [y], (st.trans s4).wrNew hN ((s4.fo _ _ e).trans f0), (s4.fo _ _ e).trans f0, upd_same, by simp; omega, r⟩, hN⟩⟩
theorem lc_skip {S : Addr → Prop} {R : Nat → List V → Hp → Hp → Prop} {i : Nat} {acc : List V} {d : Addr} {F1 H1 F4 H4 : Hp} (hN : H d = none) (nS : ¬ S d) (st : Stp S F H F1 H1) (f0 : F1 d = none) (e : H1 d = some (.lst acc)) (hl : acc.length ≤ i)
    (s4 : Stp S F1 H1 F4 H4) (r : R (i + 1) acc F4 H4) : LcP S F H d R (i + 1) H4 := ⟨⟨F4, acc, st.trans s4, (s4.fo _ _ e).trans f0, s4.keep _ _ nS e, by omega, r⟩, hN⟩
theorem ifd {p A B : Prop} [Decidable p] (a : p → A) (b : ¬ p → B) : if decide p = true then A else B := by
  by_cases h : p
  · rw [if_pos (decide_eq_true h)]; exact a h
  · rw [if_neg (by simp [h])]; exact b h
theorem itNF {A B : Prop} (h : B) : if (!true) = true then A else B := h
theorem itNT {A B : Prop} (h : A) : if (!false) = true then A else B := h
theorem ifn {p A B : Prop} [Decidable p] (a : p → B) (b : ¬ p → A) : if (!decide p) = true then A else B := by
  by_cases h : p
  · rw [if_neg (by simp [h])]; exact a h
  · rw [if_pos (by simp [h])]; exact b h
end
theorem eqv_ints (u v : Int) : PyData.eqv (.tuple [.int u, .int v]) (.tuple [.int u, .int v]) = true := by simp [PyData.eqv, PyData.eqvAll]
/-! ### tests that may be weakened (for while) -/
def MonE (t : TE) : Prop := ∀ σ H (Q Q' : VK), (∀ v H1, Q v H1 → Q' v H1) → t σ H Q → t σ H Q'
def MonT (t : TT) : Prop := ∀ σ H (Q Q' : Bool → Hp → Prop), (∀ b H1, Q b H1 → Q' b H1) → t σ H Q → t σ H Q'
def MonA (t : TA) : Prop := ∀ σ H (Q Q' : List V → Hp → Prop), (∀ vs H1, Q vs H1 → Q' vs H1) → t σ H Q → t σ H Q'
def MonR (r : R2) : Prop := ∀ x y H (Q Q' : VK), (∀ v H1, Q v H1 → Q' v H1) → r x y H Q → r x y H Q'
theorem mon_var {i : Nat} : MonE (tVar i) := fun _ _ _ _ h ⟨v, e, q⟩ => ⟨v, e, h _ _ q⟩
theorem mon_c {v : V} : MonE (tC v) := fun _ _ _ _ h q => h _ _ q
theorem mon_op {r : R2} {a b : TE} (hr : MonR r) (ha : MonE a) (hb : MonE b) : MonE (tOp r a b) := fun σ _ _ _ h q => ha _ _ _ _ (fun x H1 q1 => hb _ _ _ _ (fun y H2 q2 => hr _ _ _ _ _ h q2) q1) q
theorem mon_I0 {g : Int → Int → V} : MonR (rI0 g) := fun _ _ _ _ _ h ⟨i, j, e1, e2, q⟩ => ⟨i, j, e1, e2, h _ _ q⟩
theorem mon_I {C : Int → Int → Prop} {g : Int → Int → V} : MonR (rI C g) := fun _ _ _ _ _ h ⟨i, j, e1, e2, c, q⟩ => ⟨i, j, e1, e2, c, h _ _ q⟩
theorem mon_eq : MonR rEq := fun _ _ _ _ _ h ⟨e, q⟩ => ⟨e, h _ _ q⟩
theorem mon_ne : MonR rNe := fun _ _ _ _ _ h ⟨e, q⟩ => ⟨e, h _ _ q⟩
theorem mon_ixL {K : PySem.W.Frag} : MonR (rIxL K) := fun _ _ _ _ _ h ⟨p, xs, i, v, e1, e2, s, a, q⟩ => ⟨p, xs, i, v, e1, e2, s, a, h _ _ q⟩
theorem mon_nil : MonA tNil := fun _ _ _ _ h q => h _ _ q
theorem mon_cons {a : TE} {t : TA} (ha : MonE a) (ht : MonA t) : MonA (tCons a t) := fun σ _ _ _ h q => ha _ _ _ _ (fun x H1 q1 => ht _ _ _ _ (fun xs H2 q2 => h _ _ q2) q1) q
theorem mon_len {K : PySem.W.Frag} {t : TA} (ht : MonA t) : MonE (tCB (rLen K) t) := fun σ _ _ _ h q => ht _ _ _ _ (fun vs H1 ⟨p, ys, e, s, q1⟩ => ⟨p, ys, e, s, h _ _ q1⟩) q
theorem mon_test {a : TE} (ha : MonE a) : MonT (tTest a) := fun σ _ _ _ h q => ha _ _ _ _ (fun x H1 ⟨k, e, q1⟩ => ⟨k, e, h _ _ q1⟩) q
theorem mon_and {a b : TT} (ha : MonT a) (hb : MonT b) : MonT (tAnd a b) := fun σ _ _ _ h q => ha _ _ _ _ (fun c H1 q1 => by
  cases c with
  | true => exact hb _ _ _ _ h q1
  | false => exact h _ _ q1) q
theorem whileM {D : Ends} {σ : L2.St} {H : Hp} {c : TT} {tb : TS} (m : MonT c) (Pv : L2.St → Hp → Prop) (μ : L2.St → Hp → Nat) (h0 : Pv σ H)
    (hs : ∀ σ H, Pv σ H → c σ H fun b H1 => if b = true then tb { D with nx := fun σ' H' => Pv σ' H' ∧ μ σ' H' < μ σ H, ct := fun σ' H' => Pv σ' H' ∧ μ σ' H' < μ σ H, bk := D.nx } σ H1 else D.nx σ H1) : tWhile c tb D σ H := while_by Pv μ h0 hs m
/-! ### data compared: lists and tuples of numbers -/
open PyData in
theorem depthAll_ints : ∀ ns : List Int, depthAll (ns.map PyData.int) ≤ 1
  | [] => by simp [depthAll]
  | n :: ns => by
    have := depthAll_ints ns
    simp only [List.map_cons, depthAll, depth]
    omega
open PyData in
theorem canLay_ints : ∀ ns : List Int, canLayAll0 (ns.map PyData.int) = true
  | [] => rfl
  | n :: ns => by simp [canLayAll0, canLay0, canLay_ints ns]
theorem shaped_ints (ns : List Int) : SeqAt.shaped (.list (ns.map .int)) = true := by
  have h := depthAll_ints ns
  have e : (PyData.list (ns.map .int)).depth = PyData.depthAll (ns.map .int) + 1 := by rw [PyData.depth]
  exact Bool.and_eq_true_iff.mpr ⟨by rw [PyData.canLay0]; exact canLay_ints ns, decide_eq_true (by rw [e]; omega)⟩
theorem shaped_intsT (ns : List Int) : SeqAt.shaped (.tuple (ns.map .int)) = true := by
  have h := depthAll_ints ns
  have e : (PyData.tuple (ns.map .int)).depth = PyData.depthAll (ns.map .int) + 1 := by rw [PyData.depth]
  exact Bool.and_eq_true_iff.mpr ⟨by rw [PyData.canLay0]; exact canLay_ints ns, decide_eq_true (by rw [e]; omega)⟩
open PyData in
theorem eqvAll_ints : ∀ ns ms : List Int, eqvAll (ns.map PyData.int) (ms.map PyData.int) = decide (ns = ms)
  | [], [] => rfl
  | [], _ :: _ => by simp [eqvAll]
  | _ :: _, [] => by simp [eqvAll]
  | n :: ns, m :: ms => by
    simp only [List.map_cons, eqvAll, eqv, eqvAll_ints ns ms]
    by_cases h : n = m <;> by_cases h2 : ns = ms <;> simp [h, h2]
theorem eqv_intsL (ns ms : List Int) : PyData.eqv (.list (ns.map .int)) (.list (ms.map .int)) = decide (ns = ms) := by rw [PyData.eqv, eqvAll_ints]
theorem eqv_intsT (ns ms : List Int) : PyData.eqv (.tuple (ns.map .int)) (.tuple (ms.map .int)) = decide (ns = ms) := by rw [PyData.eqv, eqvAll_ints]
theorem dp_all_ints {K : PySem.W.Frag} {H : Hp} : ∀ ns : List Int, DpAll K H (ns.map V.int) (ns.map .int)
  | [] => .nil
  | n :: ns => .cons (.int n) (dp_all_ints ns)
theorem dp_ints {K : PySem.W.Frag} {H : Hp} {a : Addr} {ns : List Int} (h : SqL K H a (ns.map V.int)) : Dp K H (.ref a) (.list (ns.map .int)) := .lst h (dp_all_ints ns)
theorem dp_intsT {K : PySem.W.Frag} {H : Hp} {a : Addr} {ns : List Int} (h : SqT K H a (ns.map V.int)) : Dp K H (.ref a) (.tuple (ns.map .int)) := .tup h (dp_all_ints ns)
/-- two lists of numbers compared -/
theorem s_eqL {K : PySem.W.Frag} {H : Hp} {Q : VK} {a b : Addr} {ns ms : List Int} (h1 : SqL K H a (ns.map V.int)) (h2 : SqL K H b (ms.map V.int)) (q : Q (.bl (decide (ns = ms))) H) : rEqD K (.ref a) (.ref b) H Q :=
  s_eqD (dp_ints h1) (dp_ints h2) (shaped_ints _) (shaped_ints _) (by rw [eqv_intsL]; exact q)
theorem s_neL {K : PySem.W.Frag} {H : Hp} {Q : VK} {a b : Addr} {ns ms : List Int} (h1 : SqL K H a (ns.map V.int)) (h2 : SqL K H b (ms.map V.int)) (q : Q (.bl (!decide (ns = ms))) H) : rNeD K (.ref a) (.ref b) H Q :=
  ⟨_, _, dp_ints h1, dp_ints h2, shaped_ints _, shaped_ints _, by rw [eqv_intsL]; exact q⟩
theorem s_eqT {K : PySem.W.Frag} {H : Hp} {Q : VK} {a b : Addr} {ns ms : List Int} (h1 : SqT K H a (ns.map V.int)) (h2 : SqT K H b (ms.map V.int)) (q : Q (.bl (decide (ns = ms))) H) : rEqD K (.ref a) (.ref b) H Q :=
  s_eqD (dp_intsT h1) (dp_intsT h2) (shaped_intsT _) (shaped_intsT _) (by rw [eqv_intsT]; exact q)
theorem s_neT {K : PySem.W.Frag} {H : Hp} {Q : VK} {a b : Addr} {ns ms : List Int} (h1 : SqT K H a (ns.map V.int)) (h2 : SqT K H b (ms.map V.int)) (q : Q (.bl (!decide (ns = ms))) H) : rNeD K (.ref a) (.ref b) H Q :=
  ⟨_, _, dp_intsT h1, dp_intsT h2, shaped_intsT _, shaped_intsT _, by rw [eqv_intsT]; exact q⟩
theorem rep_int (n k : Nat) (b : Int) : (List.replicate n [V.int b]).flatten = (List.replicate n b).map V.int := by induction n <;> simp_all [List.replicate_succ]
theorem get_int {ns : List Int} {i : Nat} (h : i < ns.length) : (ns.map V.int)[i]? = some (V.int ns[i]) := by simp [h]
/-- what a call left behind: a new thing that stands still from now on -/
theorem Stp.got {S : Addr → Prop} {F H H' : Hp} {p : Addr} {o : HO} (h : Same F H) (s : Same H H') (hn : H p = none) (hp : H' p = some o) : Stp S F H (upd F p o) H' := by
  have fp : F p = none := h.free hn
  refine ⟨fun b u e => by rw [upd_ne (ne_of_none e fp)]; exact e, fun b u e => ?_, fun b u e => by rw [upd_ne (ne_of_none e hn)], fun b u _ e => s b u e, fun b u e => ⟨u, s b u e⟩⟩
  by_cases q : b = p
  · subst q; rw [upd_same] at e; cases e; exact hp
  · rw [upd_ne q] at e; exact s b u (h b u e)
open PyData in
theorem depthAll_bools : ∀ ns : List Bool, depthAll (ns.map PyData.bool) ≤ 1
  | [] => by simp [depthAll]
  | n :: ns => by
    have := depthAll_bools ns
    simp only [List.map_cons, depthAll, depth]
    omega
open PyData in
theorem canLay_bools : ∀ ns : List Bool, canLayAll0 (ns.map PyData.bool) = true
  | [] => rfl
  | n :: ns => by simp [canLayAll0, canLay0, canLay_bools ns]
theorem shaped_bools (ns : List Bool) : SeqAt.shaped (.list (ns.map .bool)) = true := by
  have h := depthAll_bools ns
  have e : (PyData.list (ns.map .bool)).depth = PyData.depthAll (ns.map .bool) + 1 := by rw [PyData.depth]
  exact Bool.and_eq_true_iff.mpr ⟨by rw [PyData.canLay0]; exact canLay_bools ns, decide_eq_true (by rw [e]; omega)⟩
open PyData in
theorem eqvAll_bools : ∀ ns ms : List Bool, eqvAll (ns.map PyData.bool) (ms.map PyData.bool) = decide (ns = ms)
  | [], [] => rfl
  | [], _ :: _ => by simp [eqvAll]
  | _ :: _, [] => by simp [eqvAll]
  | n :: ns, m :: ms => by
    simp only [List.map_cons, eqvAll, eqv, eqvAll_bools ns ms]
    by_cases h : n = m <;> by_cases h2 : ns = ms <;> simp [h, h2]
theorem eqv_boolsL (ns ms : List Bool) : PyData.eqv (.list (ns.map .bool)) (.list (ms.map .bool)) = decide (ns = ms) := by rw [PyData.eqv, eqvAll_bools]
theorem dp_all_bools {K : PySem.W.Frag} {H : Hp} : ∀ ns : List Bool, DpAll K H (ns.map V.bl) (ns.map .bool)
  | [] => .nil
  | n :: ns => .cons (.bl n) (dp_all_bools ns)
theorem dp_bools {K : PySem.W.Frag} {H : Hp} {a : Addr} {ns : List Bool} (h : SqL K H a (ns.map V.bl)) : Dp K H (.ref a) (.list (ns.map .bool)) := .lst h (dp_all_bools ns)
theorem s_neB {K : PySem.W.Frag} {H : Hp} {Q : VK} {a b : Addr} {ns ms : List Bool} (h1 : SqL K H a (ns.map V.bl)) (h2 : SqL K H b (ms.map V.bl)) (q : Q (.bl (!decide (ns = ms))) H) : rNeD K (.ref a) (.ref b) H Q :=
  ⟨_, _, dp_bools h1, dp_bools h2, shaped_bools _, shaped_bools _, by rw [eqv_boolsL]; exact q⟩
theorem eqV_int (i j : Int) : eqV (.int i) (.int j) = decide (i = j) := by
  show (i == j) = decide (i = j)
  by_cases h : i = j <;> simp [h]
theorem inV_ints (x : Int) (ns : List Int) : inV (.int x) (ns.map V.int) = decide (x ∈ ns) := by
  unfold inV
  induction ns with
  | nil => simp
  | cons n ns ih =>
    rw [List.map_cons, List.any_cons, ih, eqV_int]
    by_cases h : n = x
    · subst h; simp
    · by_cases h2 : x ∈ ns
      · simp [h2]
      · have : ¬ x = n := fun z => h z.symm
        simp [h, h2, this]
theorem flat_ints (ns : List Int) : (ns.map V.int).all flatV = true := by
  rw [List.all_eq_true]; intro v hv
  obtain ⟨n, _, rfl⟩ := List.mem_map.mp hv
  rfl
/-- a number in a list of numbers -/
theorem s_inI {K : PySem.W.Frag} {H : Hp} {Q : VK} {a : Addr} {ns : List Int} {x : Int} (h : SqL K H a (ns.map V.int)) (q : Q (.bl (decide (x ∈ ns))) H) : rIn K false (.int x) (.ref a) H Q :=
  ⟨a, _, rfl, .inl h, rfl, flat_ints ns, by rw [if_neg (by decide), inV_ints]; exact q⟩
theorem cutV_nat (xs : List V) (i j : Nat) : cutV xs (some (i : Int)) (some (j : Int)) = (xs.drop i).take (j - i) := by
  unfold cutV
  rw [HT.sIx_nat, HT.sIx_nat]
  by_cases h : i ≤ xs.length
  · rw [Nat.min_eq_left h]
    by_cases h2 : j ≤ xs.length
    · rw [Nat.min_eq_left h2]
    · rw [Nat.min_eq_right (by omega), List.take_of_length_le (by simp), List.take_of_length_le (by simp; omega)]
  · rw [Nat.min_eq_right (show xs.length ≤ i by omega), List.drop_of_length_le (Nat.le_refl _), List.drop_of_length_le (by omega)]; simp
theorem cutV_from (xs : List V) (i : Nat) : cutV xs (some (i : Int)) none = xs.drop i := by
  unfold cutV
  rw [HT.sIx_nat, HT.sIx_none]
  by_cases h : i ≤ xs.length
  · rw [Nat.min_eq_left h, List.take_of_length_le (by simp)]
  · rw [Nat.min_eq_right (by omega), List.drop_of_length_le (by omega), List.drop_of_length_le (by omega)]; simp
theorem cutV_to (xs : List V) (j : Nat) : cutV xs none (some (j : Int)) = xs.take j := by
  unfold cutV
  rw [HT.sIx_nat, HT.sIx_none]
  by_cases h2 : j ≤ xs.length
  · rw [Nat.min_eq_left h2]; simp
  · rw [Nat.min_eq_right (by omega), List.take_of_length_le (by simp), List.take_of_length_le (by omega)]; simp
/-- values without parts, as data -/
def toD : V → PyData
  | .bl b => .bool b
  | .int i => .int i
  | .str s => .str s
  | _ => .none
def flatW (v : V) : Bool := match v with
  | .non => true
  | .bl _ => true
  | .int _ => true
  | .str s => PyData.strOk s
  | _ => false
theorem dp_flat {K : PySem.W.Frag} {H : Hp} {v : V} (h : flatW v = true) : Dp K H v (toD v) := by
  cases v with
  | non => exact .non
  | bl b => exact .bl b
  | int i => exact .int i
  | str s => exact .str s
  | _ => cases h
theorem dp_flats {K : PySem.W.Frag} {H : Hp} : ∀ {vs : List V}, vs.all flatW = true → DpAll K H vs (vs.map toD)
  | [], _ => .nil
  | v :: vs, h => by
    rw [List.all_cons, Bool.and_eq_true] at h
    exact .cons (dp_flat h.1) (dp_flats h.2)
open PyData in
theorem depthAll_flat : ∀ vs : List V, depthAll (vs.map toD) ≤ 1
  | [] => by simp [depthAll]
  | n :: ns => by
    have := depthAll_flat ns
    have e : depth (toD n) = 0 := by cases n <;> simp [toD, depth]
    simp only [List.map_cons, depthAll, e]
    omega
open PyData in
theorem canLay_flat : ∀ vs : List V, vs.all flatW = true → canLayAll0 (vs.map toD) = true
  | [], _ => rfl
  | n :: ns, h => by
    rw [List.all_cons, Bool.and_eq_true] at h
    have e : canLay0 (toD n) = true := by
      cases n with
      | str s => exact h.1
      | _ => rfl
    simp [canLayAll0, e, canLay_flat ns h.2]
theorem shaped_flatT {vs : List V} (h : vs.all flatW = true) : SeqAt.shaped (.tuple (vs.map toD)) = true := by
  have h1 := depthAll_flat vs
  have e : (PyData.tuple (vs.map toD)).depth = PyData.depthAll (vs.map toD) + 1 := by rw [PyData.depth]
  exact Bool.and_eq_true_iff.mpr ⟨by rw [PyData.canLay0]; exact canLay_flat vs h, decide_eq_true (by rw [e]; omega)⟩
/-- two equal tuples compared -/
theorem s_neTs {K : PySem.W.Frag} {H : Hp} {Q : VK} {a b : Addr} {vs : List V} (h1 : SqT K H a vs) (h2 : SqT K H b vs) (f : vs.all flatW = true) (q : Q (.bl false) H) : rNeD K (.ref a) (.ref b) H Q :=
  ⟨_, _, .tup h1 (dp_flats f), .tup h2 (dp_flats f), shaped_flatT f, shaped_flatT f, by rw [SeqAt.eqv_refl _ (SeqAt.canLay_of_shaped (shaped_flatT f))]; exact q⟩
theorem s_eqTs {K : PySem.W.Frag} {H : Hp} {Q : VK} {a b : Addr} {vs : List V} (h1 : SqT K H a vs) (h2 : SqT K H b vs) (f : vs.all flatW = true) (q : Q (.bl true) H) : rEqD K (.ref a) (.ref b) H Q :=
  ⟨_, _, .tup h1 (dp_flats f), .tup h2 (dp_flats f), shaped_flatT f, shaped_flatT f, by rw [SeqAt.eqv_refl _ (SeqAt.canLay_of_shaped (shaped_flatT f))]; exact q⟩
/-- a written list of one thing, so many times -/
theorem s_rep {H : Hp} {Q : VK} {l : Addr} {v : V} {k : Int} (h : H l = some (.lst [v])) (k1 : k ≤ 100000) (k0 : -100000 ≤ k) (q : ∀ p, H p = none → Q (.ref p) (upd H p (.lst (List.replicate k.toNat v)))) : rRep (.ref l) (.int k) H Q := by
  have e : (List.replicate k.toNat [v]).flatten = List.replicate k.toNat v := by
    generalize k.toNat = n
    induction n with
    | zero => rfl
    | succ n ih => rw [List.replicate_succ, List.flatten_cons, ih]; rfl
  have hz : 1 * k.toNat ≤ sizeLine := by rw [Nat.one_mul]; exact sz (by omega)
  exact ⟨l, k, [v], rfl, rfl, h, by omega, by omega, hz, fun p hp => by rw [e]; exact q p hp⟩
/-- lists of lists of numbers -/
def RowV (K : PySem.W.Frag) (H : Hp) (v : V) (l : List Int) : Prop := ∃ a, v = .ref a ∧ SqL K H a (l.map V.int)
inductive RowsV (K : PySem.W.Frag) (H : Hp) : List V → List (List Int) → Prop
  | nil : RowsV K H [] []
  | cons {v : V} {vs : List V} {l : List Int} {ls : List (List Int)} : RowV K H v l → RowsV K H vs ls → RowsV K H (v :: vs) (l :: ls)
theorem RowsV.dp {K : PySem.W.Frag} {H : Hp} : ∀ {vs : List V} {ls : List (List Int)}, RowsV K H vs ls → DpAll K H vs (ls.map fun l => .list (l.map .int))
  | _, _, .nil => .nil
  | _, _, .cons ⟨a, e, h⟩ r => .cons (e ▸ dp_ints h) r.dp
open PyData in
theorem depthAll_rows : ∀ ls : List (List Int), depthAll (ls.map fun l => PyData.list (l.map .int)) ≤ 2
  | [] => by simp [depthAll]
  | l :: ls => by
    have h1 := depthAll_rows ls
    have h2 := depthAll_ints l
    simp only [List.map_cons, depthAll, depth]
    omega
open PyData in
theorem canLay_rows : ∀ ls : List (List Int), canLayAll0 (ls.map fun l => PyData.list (l.map .int)) = true
  | [] => rfl
  | l :: ls => by simp [canLayAll0, canLay0, canLay_ints, canLay_rows ls]
theorem shaped_rows (ls : List (List Int)) : SeqAt.shaped (.list (ls.map fun l => .list (l.map .int))) = true := by
  have h := depthAll_rows ls
  have e : (PyData.list (ls.map fun l => PyData.list (l.map .int))).depth = PyData.depthAll (ls.map fun l => PyData.list (l.map .int)) + 1 := by rw [PyData.depth]
  exact Bool.and_eq_true_iff.mpr ⟨by rw [PyData.canLay0]; exact canLay_rows ls, decide_eq_true (by rw [e]; omega)⟩
theorem s_eqRows {K : PySem.W.Frag} {H : Hp} {Q : VK} {a b : Addr} {xs ys : List V} {ls : List (List Int)} (h1 : SqL K H a xs) (h2 : SqL K H b ys) (r1 : RowsV K H xs ls) (r2 : RowsV K H ys ls) (q : Q (.bl true) H) : rEqD K (.ref a) (.ref b) H Q :=
  s_eqD (.lst h1 r1.dp) (.lst h2 r2.dp) (shaped_rows ls) (shaped_rows ls) (by rw [SeqAt.eqv_refl _ (SeqAt.canLay_of_shaped (shaped_rows ls))]; exact q)
theorem s_neRows {K : PySem.W.Frag} {H : Hp} {Q : VK} {a b : Addr} {xs ys : List V} {ls : List (List Int)} (h1 : SqL K H a xs) (h2 : SqL K H b ys) (r1 : RowsV K H xs ls) (r2 : RowsV K H ys ls) (q : Q (.bl false) H) : rNeD K (.ref a) (.ref b) H Q :=
  ⟨_, _, .lst h1 r1.dp, .lst h2 r2.dp, shaped_rows ls, shaped_rows ls, by rw [SeqAt.eqv_refl _ (SeqAt.canLay_of_shaped (shaped_rows ls))]; exact q⟩
/-- lists of flat tuples -/
def TupV (K : PySem.W.Frag) (H : Hp) (v : V) (l : List V) : Prop := ∃ a, v = .ref a ∧ SqT K H a l ∧ l.all flatW = true
inductive TupsV (K : PySem.W.Frag) (H : Hp) : List V → List (List V) → Prop
  | nil : TupsV K H [] []
  | cons {v : V} {vs : List V} {l : List V} {ls : List (List V)} : TupV K H v l → TupsV K H vs ls → TupsV K H (v :: vs) (l :: ls)
theorem TupsV.dp {K : PySem.W.Frag} {H : Hp} : ∀ {vs : List V} {ls : List (List V)}, TupsV K H vs ls → DpAll K H vs (ls.map fun l => .tuple (l.map toD))
  | _, _, .nil => .nil
  | _, _, .cons ⟨_, e, h, f⟩ r => .cons (e ▸ .tup h (dp_flats f)) r.dp
open PyData in
theorem depthAll_tups : ∀ ls : List (List V), depthAll (ls.map fun l => PyData.tuple (l.map toD)) ≤ 2
  | [] => by simp [depthAll]
  | l :: ls => by
    have h1 := depthAll_tups ls
    have h2 := depthAll_flat l
    simp only [List.map_cons, depthAll, depth]
    omega
open PyData in
theorem canLay_tups {K : PySem.W.Frag} {H : Hp} : ∀ {vs : List V} {ls : List (List V)}, TupsV K H vs ls → canLayAll0 (ls.map fun l => PyData.tuple (l.map toD)) = true
  | _, _, .nil => rfl
  | _, _, .cons ⟨_, _, _, f⟩ r => by simp [canLayAll0, canLay0, canLay_flat _ f, canLay_tups r]
theorem shaped_tups {K : PySem.W.Frag} {H : Hp} {vs : List V} {ls : List (List V)} (r : TupsV K H vs ls) : SeqAt.shaped (.list (ls.map fun l => .tuple (l.map toD))) = true := by
  have h := depthAll_tups ls
  have e : (PyData.list (ls.map fun l => PyData.tuple (l.map toD))).depth = PyData.depthAll (ls.map fun l => PyData.tuple (l.map toD)) + 1 := by rw [PyData.depth]
  exact Bool.and_eq_true_iff.mpr ⟨by rw [PyData.canLay0]; exact canLay_tups r, decide_eq_true (by rw [e]; omega)⟩
theorem s_eqTups {K : PySem.W.Frag} {H : Hp} {Q : VK} {a b : Addr} {xs ys : List V} {ls : List (List V)} (h1 : SqL K H a xs) (h2 : SqL K H b ys) (r1 : TupsV K H xs ls) (r2 : TupsV K H ys ls) (q : Q (.bl true) H) : rEqD K (.ref a) (.ref b) H Q :=
  s_eqD (.lst h1 r1.dp) (.lst h2 r2.dp) (shaped_tups r1) (shaped_tups r2) (by rw [SeqAt.eqv_refl _ (SeqAt.canLay_of_shaped (shaped_tups r1))]; exact q)
theorem s_neTups {K : PySem.W.Frag} {H : Hp} {Q : VK} {a b : Addr} {xs ys : List V} {ls : List (List V)} (h1 : SqL K H a xs) (h2 : SqL K H b ys) (r1 : TupsV K H xs ls) (r2 : TupsV K H ys ls) (q : Q (.bl false) H) : rNeD K (.ref a) (.ref b) H Q :=
  ⟨_, _, .lst h1 r1.dp, .lst h2 r2.dp, shaped_tups r1, shaped_tups r2, by rw [SeqAt.eqv_refl _ (SeqAt.canLay_of_shaped (shaped_tups r1))]; exact q⟩
/-! ### a list to draw from: [a great number, a number that is stirred] -/
def Src (F H : Hp) (p : Addr) : Prop := Same F H ∧ F p = none ∧ ∃ a b : Int, H p = some (.lst [.int a, .int b]) ∧ 0 ≤ b ∧ b < 2147483647
theorem Src.of {F H H' : Hp} {p : Addr} (h : Src F H p) (s : Same H H') : Src F H' p := let ⟨a, b, x, y, e, z⟩ := h; ⟨a.trans s, b, x, y, s _ _ e, z⟩
theorem Src.wr {F H : Hp} {p : Addr} {x y : Int} (h : Src F H p) (y0 : 0 ≤ y) (y1 : y < 2147483647) : Src F (upd H p (.lst [.int x, .int y])) p :=
  ⟨(Stp.wr (S := S1 p) h.1 rfl h.2.1).fh, h.2.1, x, y, upd_same, y0, y1⟩
theorem Src.weak {F F' H : Hp} {p : Addr} (h : Src F' H p) (s : Same F F') : Src F H p := let ⟨a, b, x⟩ := h; ⟨s.trans a, s.free b, x⟩
theorem Src.new {F H : Hp} {p q : Addr} {o : HO} (h : Src F H p) (hq : H q = none) : Src (upd F q o) (upd H q o) p := by
  obtain ⟨a, b, x, y, e, z⟩ := h
  have n : p ≠ q := ne_of_none e hq
  exact ⟨(Stp.new (S := S0) a hq).fh, by rw [upd_ne n]; exact b, x, y, by rw [upd_ne n]; exact e, z⟩
/-- a cell beside it is written -/
theorem Src.upd {F H : Hp} {p q : Addr} {o : HO} (h : Src F H p) (n : q ≠ p) (fq : F q = none) : Src F (upd H q o) p := by
  obtain ⟨a, b, x, y, e, z⟩ := h
  exact ⟨(Stp.wr (S := S1 q) a rfl fq).fh, b, x, y, by rw [upd_ne n.symm]; exact e, z⟩
theorem Src.dom {F H : Hp} {p : Addr} (h : Src F H p) : ∃ o, H p = some o := let ⟨_, _, x, y, e, _⟩ := h; ⟨_, e⟩
theorem Src.frz {F H : Hp} {p d : Addr} {o : HO} (h : Src F H p) (n : p ≠ d) (fh : Same (L2.upd F d o) H) : Src (L2.upd F d o) H p := by
  obtain ⟨a, b, x, y, e, z⟩ := h
  exact ⟨fh, by rw [upd_ne n]; exact b, x, y, e, z⟩
theorem Src.ne {F H : Hp} {p d : Addr} (h : Src F H p) (hd : H d = none) : p ≠ d := by
  obtain ⟨o, e⟩ := h.dom
  exact ne_of_none e hd
/-- behind a draw: what stands beside the cell is as it was -/
def Drawn (p : Addr) (F H H' : Hp) : Prop := Src F H' p ∧ Stp (S1 p) F H F H'
section SecFmt
open PySem PySem.Spec PyProof.Rows L2
/-- the binary digits of a number that is not negative, as a text -/
def binText (n : Nat) : Str := ⟨((Nat.toDigits 2 n).map Char.toNat).toArray⟩
def fB : Builtin.Float.FormatSpec := { align := 62, type := some 98 }
theorem parseB : Builtin.Float.parseFormatSpec (Str.ofString "b").cps.toList "int" 62 = Except.ok fB := by rfl
section
variable {prog : Program} {w : World} {A : Around} {E : Value → Shared → Prop} {s : Shared}
theorem ite_no {β : Type} {M : Model} {c : Prop} [Decidable c] {x y : Sem β} {Q : β → Shared → Prop} (h : ¬ c) (q : wpAny M A y Q E s) : wpAny M A (if c then x else y) Q E s := by rw [if_neg h]; exact q
theorem field_b {a : Int} {t : Tok} {Q : Value → Shared → Prop} (h0 : 0 ≤ a) (hl : (Nat.toDigits 2 a.natAbs).length ≤ 100000)
    (h : Q (.str (binText a.natAbs) (s.toks + 1)) { s with toks := s.toks + 1 + 1 }) : wpAny (model prog w) A (formatField (.int a t) (Str.ofString "b")) Q E s := by
  show wpAny _ _ (holding [.int a t] (pyFormat (.int a t) (Str.ofString "b"))) Q E s
  refine wpAny_holding ?_
  unfold pyFormat
  refine wpAny_bind (wpAny_mkStr ?_ (by decide))
  refine wpAny_bind (m := callSpecial? (.int a t) (Str.ofString "__format__") [.str (Str.ofString "b") s.toks])
    (wpAny_callSpecial?_slot (name := Str.ofString "__format__") (typeIs_int _ a t) slot_int_format ?_)
  refine wpAny_call (codeAny_call_builtin slot_int_format.plain entry_int_format
    (slot_int_format.check _ _ _ _ _ _ _ _ (typeIs_int _ a t) (args_int_format _ _) ?_))
  have hne : ((Str.ofString "b").length == 0) = false := by decide
  have hasc : (((Str.ofString "b").cps.toList.drop 1).any (· ≥ 128) || ((Str.ofString "b").cps.getD 0 0 ≥ 128 && !([60, 62, 61, 94] : List Nat).contains ((Str.ofString "b").cps.getD 1 0))) = false := by decide
  unfold Builtin.«int.__format__»
  simp only [selfAndOne, noKeywords, Builtin.Int.intOfSelf, asInt?, asStr?, List.isEmpty_nil, if_true, pure_bind, bind_pure, bind_assoc, hne, hasc, Bool.false_eq_true,
    if_false, show (Value.str (Str.ofString "b") s.toks == Value.none) = false from rfl]
  refine wpAny_bind (wpAny_typeNameOf (T := "str") (typeIs_str _ _ _) (by decide) fun _ => ?_)
  first | refine wpAny_bind (wpAny_typeNameOfCut_int ?_) | refine wpAny_bind (wpAny_typeNameOf_int ?_)
  simp only [parseB, fB]
  rw [if_pos (by decide)]
  simp only [Option.getD_some]
  show wpAny _ _ (retStr _) _ _ _
  unfold retStr
  have key : ∀ (x : Str), x = binText a.natAbs → x.length ≤ sizeLine ∧ Q (.str x (s.toks + 1)) { s with toks := s.toks + 1 + 1 } := fun x e => by
    subst e
    exact ⟨Nat.le_trans (by simpa [binText, Str.length] using hl) (by decide), h⟩
  refine wpAny_bind (wpAny_mkStr (wpAny_pure ?_) (key _ ?hs2).1)
  case hs2 =>
    conv => lhs; whnf
    have hneg : decide (a < 0) = false := by simpa using h0
    simp [hneg, binText]
  dsimp only
  refine wpAny_bind (wpAny_isInstance (typeIs_str _ _ _) isSubtype_str_str (wpAny_pure ?_))
  refine (key _ ?_).2
  conv => lhs; whnf
  have hneg : decide (a < 0) = false := by simpa using h0
  simp [hneg, binText]
end
section
variable {X : Cx}
/-- {n:b} -/
def tFmtB (te : TE) : TE := fun σ H Q => te σ H fun x H1 => ∃ i : Int, x = .int i ∧ 0 ≤ i ∧ (Nat.toDigits 2 i.natAbs).length ≤ 100000 ∧ Q (.str (binText i.natAbs)) H1
theorem pe_fmtB {e : Expr} {te : TE} {k : Nat} {p1 p2 pos : Pos} (he : PE X e te) : PE X (.FormattedValue e (-1) (some (.JoinedStr [.Constant (.str "b") k p1] p2)) pos) (tFmtB te) := by
  refine ⟨fun pins s σ H Q I h => ?_⟩
  refine wpAny_FormattedValue_spec (thn (he.run pins s σ H _ I h) fun v s1 hv => ?_)
  obtain ⟨x, H1, I1, r1, i, rfl, h0, hl, q⟩ := hv
  obtain ⟨t, rfl⟩ := r1
  have hp : PE X (.JoinedStr [.Constant (.str "b") k p1] p2) (tC (.str "b")) := pe_joined1 pe_str
  refine thn (hp.run pins s1 σ H1 (fun v H' => v = .str "b" ∧ H' = H1) I1 ⟨rfl, rfl⟩) fun r s2 hr => ?_
  obtain ⟨y, H2, I2, r2, rfl, rfl⟩ := hr
  obtain ⟨u, rfl⟩ := r2
  exact ⟨_, _, rfl, field_b h0 hl ⟨.str (binText i.natAbs), H2, I2.tok _, ⟨_, rfl⟩, q⟩⟩
end
end SecFmt
section SecBits
open PySem PySem.Spec PyProof.Rows L2
/-! ### binary digits -/
/-- the w lowest binary digits of n, the highest first -/
def fixL : Nat → Nat → List Int
  | 0, _ => []
  | w + 1, n => fixL w (n / 2) ++ [((n % 2 : Nat) : Int)]
theorem fixL_len : ∀ (w n : Nat), (fixL w n).length = w
  | 0, _ => rfl
  | w + 1, n => by rw [fixL, List.length_append, fixL_len w]; rfl
def isBit (b : Int) : Prop := b = 0 ∨ b = 1
theorem fixL_bit : ∀ (w n : Nat), ∀ b ∈ fixL w n, isBit b
  | 0, _, b, h => by simp [fixL] at h
  | w + 1, n, b, h => by
    rw [fixL, List.mem_append] at h
    rcases h with h | h
    · exact fixL_bit w _ b h
    · have : b = ((n % 2 : Nat) : Int) := by simpa using h
      have h2 : n % 2 < 2 := Nat.mod_lt _ (by decide)
      unfold isBit; omega
def code (b : Int) : Nat := (48 + b).toNat
def digs (n : Nat) : List Nat := (Nat.toDigits 2 n).map Char.toNat
theorem digs_small {n : Nat} (h : n < 2) : digs n = [48 + n] := by
  unfold digs; rw [Nat.toDigits_of_lt_base h]
  rcases (by omega : n = 0 ∨ n = 1) with rfl | rfl <;> rfl
theorem digs_step {n : Nat} (h : 2 ≤ n) : digs n = digs (n / 2) ++ [48 + n % 2] := by
  unfold digs; rw [Nat.toDigits_of_base_le (by decide) h, List.map_append]
  congr 1
  rcases (by omega : n % 2 = 0 ∨ n % 2 = 1) with e | e <;> rw [e] <;> rfl
theorem fixL_zero : ∀ w, (fixL w 0).map code = List.replicate w 48
  | 0 => rfl
  | w + 1 => by rw [fixL, List.map_append, fixL_zero w, List.replicate_succ']; rfl
theorem digs_fix : ∀ (w n : Nat), n < 2 ^ (w + 1) → (digs n).length ≤ w + 1 ∧ List.replicate (w + 1 - (digs n).length) 48 ++ digs n = (fixL (w + 1) n).map code
  | 0, n, h => by
    have h2 : n < 2 := by simpa using h
    rw [digs_small h2]
    rcases (by omega : n = 0 ∨ n = 1) with rfl | rfl <;> exact ⟨by decide, by decide⟩
  | w + 1, n, h => by
    by_cases h2 : n < 2
    · rw [digs_small h2]
      refine ⟨by simp, ?_⟩
      rw [fixL, List.map_append, show n / 2 = 0 by omega, fixL_zero]
      show List.replicate (w + 1) 48 ++ [48 + n] = _
      congr 1
      rcases (by omega : n = 0 ∨ n = 1) with rfl | rfl <;> rfl
    · have hp : n / 2 < 2 ^ (w + 1) := by rw [Nat.pow_succ] at h; omega
      obtain ⟨h3, h4⟩ := digs_fix w (n / 2) hp
      rw [digs_step (by omega), fixL, List.map_append, ← h4]
      refine ⟨by simp; omega, ?_⟩
      rw [List.length_append, List.length_singleton, show w + 1 + 1 - ((digs (n / 2)).length + 1) = w + 1 - (digs (n / 2)).length by omega, List.append_assoc]
      congr 2
theorem digs_head {n : Nat} : (digs n)[0]? = some 48 ∨ (digs n)[0]? = some 49 := by
  induction n using Nat.strongRecOn with
  | ind n ih =>
    by_cases h : n < 2
    · rw [digs_small h]; rcases (by omega : n = 0 ∨ n = 1) with rfl | rfl <;> simp
    · rw [digs_step (by omega)]
      have := ih (n / 2) (by omega)
      have hl : 0 < (digs (n / 2)).length := by
        cases e : digs (n / 2) with
        | nil => rw [e] at this; simp at this
        | cons => simp
      rw [List.getElem?_append_left hl]; exact this
theorem zfill_bin {w n : Nat} (h : n < 2 ^ (w + 1)) : (Txt.zfill (binText n) ((w + 1 : Nat) : Int)).cps.toList = (fixL (w + 1) n).map code := by
  obtain ⟨h1, h2⟩ := digs_fix w n h
  have hl : (binText n).length = (digs n).length := by simp [binText, Str.length, digs]
  have hc : (binText n).cps.toList = digs n := by simp [binText, digs]
  unfold Txt.zfill
  by_cases q : (((w + 1 : Nat) : Int) ≤ ((binText n).length : Int))
  · rw [if_pos q, hc, ← h2, show w + 1 - (digs n).length = 0 by omega]; rfl
  · rw [if_neg q]
    have e0 : ∀ x, (binText n).cps[0]? = some x → x ≠ 43 ∧ x ≠ 45 := fun x hx => by
      have : (digs n)[0]? = some x := by rw [← hc]; simpa using hx
      rcases digs_head (n := n) with z | z <;> rw [z] at this <;> cases this <;> decide
    unfold zfilled
    split
    · rename_i hx; exact absurd rfl (e0 _ hx).1
    · rename_i hx; exact absurd rfl (e0 _ hx).2
    · show (Array.replicate _ 48 ++ (binText n).cps ++ Array.replicate 0 48).toList = _
      rw [← h2]
      simp [hc, hl]
theorem bits_le {w n : Nat} (h : n < 2 ^ (w + 1)) : (Nat.toDigits 2 n).length ≤ w + 1 := by
  have := (digs_fix w n h).1
  simpa [digs] using this
theorem intBits_le {n : Int} {w : Nat} (h0 : 0 ≤ n) : (Builtin.Int.intBits n : Nat) ≤ w ↔ n.toNat < 2 ^ w := by
  unfold Builtin.Int.intBits
  by_cases h : n = 0
  · subst h; simp [Nat.two_pow_pos]
  · rw [if_neg (by simpa using h)]
    have e : n.natAbs = n.toNat := by omega
    rw [e, ← Nat.log2_lt (by omega : n.toNat ≠ 0)]
    omega
/-- the number of a list of digits, the highest first -/
def numL (bs : List Int) : Int := bs.foldl (fun a b => 2 * a + b) 0
theorem numL_snoc (bs : List Int) (b : Int) : numL (bs ++ [b]) = 2 * numL bs + b := by simp [numL, List.foldl_append]
theorem num_fixL : ∀ (w n : Nat), n < 2 ^ w → numL (fixL w n) = (n : Int)
  | 0, n, h => by
    have : n = 0 := by simpa using h
    subst this; rfl
  | w + 1, n, h => by
    rw [fixL, numL_snoc, num_fixL w (n / 2) (by rw [Nat.pow_succ] at h; omega)]
    omega
theorem code_bit {b : Int} (h : isBit b) : code b = 48 ∨ code b = 49 := by rcases h with rfl | rfl <;> decide
theorem text_bit {b : Int} (h : isBit b) : PySem.intText? ⟨#[code b]⟩ = some b := by rcases h with rfl | rfl <;> decide +kernel
/-- the digit at a place -/
theorem fixL_at : ∀ (w n i : Nat), i < w → (fixL w n)[i]? = some ((n / 2 ^ (w - 1 - i) % 2 : Nat) : Int)
  | 0, _, _, h => by omega
  | w + 1, n, i, h => by
    rw [fixL]
    by_cases hi : i < w
    · rw [List.getElem?_append_left (by rw [fixL_len]; exact hi), fixL_at w (n / 2) i hi]
      congr 3
      rw [Nat.div_div_eq_div_mul, show w + 1 - 1 - i = (w - 1 - i) + 1 by omega, Nat.pow_succ, Nat.mul_comm]
    · have : i = w := by omega
      subst this
      rw [List.getElem?_append_right (by rw [fixL_len]; exact Nat.le_refl _), fixL_len]
      simp
end SecBits
theorem s_fmtB {σ : L2.St} {H : Hp} {Q : VK} {te : TE} (h : te σ H fun x H1 => ∃ i : Int, x = .int i ∧ 0 ≤ i ∧ (Nat.toDigits 2 i.natAbs).length ≤ 100000 ∧ Q (.str (binText i.natAbs)) H1) : tFmtB te σ H Q := h
section ExcS
open PyProof.Rows
/-! ### own exception classes -/
def exA (mg : Str → Option Value) (x : Str) : Addr := match mg x with
  | some (.ref a) => a
  | _ => 0
theorem exA_of {mg : Str → Option Value} {x : Str} {a : Addr} (h : mg x = some (.ref a)) : exA mg x = a := by unfold exA; rw [h]
structure ExF (K : PySem.W.Frag) (mg : Str → Option Value) (nm : Str) : Prop where
  g : mg nm = some (.ref (exA mg nm))
  x : PySem.W.excIn K (exA mg nm) [.type "ValueError", .type "Exception", .type "BaseException", .type "object"] "ValueError.__new__" = true
  k : PySem.W.keepIn K (.ref (exA mg nm)) = true
  b : PySem.W.subIn K (.ref (exA mg nm)) (.type "BaseException") = some true
  t : PySem.W.typeIn K (.ref (exA mg nm)) = some (.type "type")
  c : ExcC K (exA mg nm)
theorem ExF.mk' {K : PySem.W.Frag} {mg : Str → Option Value} {nm : Str} {C : Addr} (g : mg nm = some (.ref C))
    (x : PySem.W.excIn K C [.type "ValueError", .type "Exception", .type "BaseException", .type "object"] "ValueError.__new__" = true) (k : PySem.W.keepIn K (.ref C) = true)
    (b : PySem.W.subIn K (.ref C) (.type "BaseException") = some true) (t : PySem.W.typeIn K (.ref C) = some (.type "type"))
    (hg : PySem.W.findIn K (.ref C) "__getattribute__" = some (some (.builtin "BaseException.__getattribute__")))
    (hk : PySem.W.findIn K (.ref C) "__getattr__" = some none)
    (hd : PySem.W.hasDictIn K C = true)
    (ha : PySem.W.findIn K (.ref C) "__class__" = some (some (.builtin "object.__class__")))
    (hn : PySem.W.specialIn K (.builtin "object.__class__") "__get__" = some (some (.builtin "getset_descriptor.__get__")))
    (ht : PySem.W.takesIn K (.builtin "object.__class__") = some true)
    (hm : PySem.W.mroIn K C (.type "object") = some true) : ExF K mg nm := by
  have e := exA_of g
  exact ⟨by rw [e]; exact g, by rw [e]; exact x, by rw [e]; exact k, by rw [e]; exact b, by rw [e]; exact t, by rw [e]; exact ⟨hg, hk, b, hd, ha, hn, ht, hm⟩⟩
theorem ExF.exm {K : PySem.W.Frag} {mg : Str → Option Value} {nm : Str} (h : ExF K mg nm) {cls : Value} {b : Bool} (s : PySem.W.subIn K cls (.ref (exA mg nm)) = some b) : PySem.W.exmOne K cls (.ref (exA mg nm)) = some b := PySem.W.exm_ref h.b h.c.hd h.t s
section
variable {X : Cx} {C : Addr} {bmB : List Value} {B newId initId : String}
open PySem.W in
/-- isinstance against an own class, by the order of the classes -/
theorem kit_own {K : Frag} {a C : Addr} {b : Bool} (hd : hasDictIn K C = true) (ht : typeIn K (.ref C) = some (.type "type")) (h : subIn K (.ref a) (.ref C) = some b) (s : subIn K (.ref a) (.ref a) = some true) : kitOne K (.ref a) (.ref C) = some b := by
  obtain ⟨cd, hc, _⟩ := any_some hd
  have e2 : ((clsIn K C).isSome && typeIn K (.ref C) == some (.type "type")) = true := by rw [hc, ht]; rfl
  unfold kitOne
  by_cases q : a = C
  · subst q
    rw [if_pos (by simp), ← h, s]
  · rw [if_neg (by simpa using q)]
    show (if ((clsIn K C).isSome && typeIn K (.ref C) == some (.type "type")) = true then subIn K (.ref a) (.ref C) else none) = some b
    rw [if_pos e2, h]
open PySem.W in
theorem kit_val {K : Frag} {a : Addr} (h : subIn K (.ref a) (.type "ValueError") = some true) : kitOne K (.ref a) (.type "ValueError") = some true := by
  unfold kitOne
  rw [if_neg (by simp)]
  show (if kitMeta "ValueError" = true then subIn K (.ref a) (.type "ValueError") else none) = some true
  rw [if_pos (by decide +kernel), h]
/-- X() -/
theorem pmk_own0 {x : Str} {p pos : Pos} (F : ExcBaseFacts B newId initId bmB) (q : PySem.W.excIn X.K C bmB newId = true) (gC : X.mg x = some (.ref C)) (kC : PySem.W.keepIn X.K (.ref C) = true) (r : Raises X (.ref C)) (hg : Gl X x)
    (hdb : (x == ("__debug__" : Str)) = false := by decide) : PMk X (.Call (.Name x p) [] [] pos) (fun _ H Q => Q (.ref C) none H) := by
  intro pins s σ H Q I h
  refine wpAny_Call_Name_kw (ld_glob I hg gC ?_ hdb)
  refine PySem.W.callWith_K0 I.kIn kC ?_
  obtain ⟨bm, N, nm, qn, bs, hdct, sn, sub, ab, col, dd, k0, k1, k2, k3, k5, mN, hC, hN, hni, T⟩ := exc_obj I.kIn q
  exact wpAny_call_exc_subT F T hC hN hni (fun h' e hm => mk_of I hm r h (I.hok.gone hm.new)) (Nat.zero_le _)
end
/-- isinstance(e, c) in an except suite: e's class is known in the reading -/
def rIsX (K : PySem.W.Frag) (a : Addr) (cls : Value) (d : Option Addr) : List V → Hp → VK → Prop := fun xs H Q => ∃ D, cls = .ref D ∧ d = none ∧ ExcC K D ∧ rIsE K D a xs H Q
theorem call_isX {X : Cx} (K : PySem.W.Frag) (eK : X.K = K) {a : Addr} {cls : Value} {d : Option Addr} {oe : Obj} {pn : List (Addr × Obj)} (hz : Zc cls d oe) (hf : ∃ vs, oe.data = .fields vs) : CallR (X.suite a ((a, oe) :: pn)) (.builtin "isinstance") (rIsX K a cls d) := by
  subst eK
  intro pins s σ H vs us Q I r h
  obtain ⟨D, rfl, rfl, C, q⟩ := h
  exact call_isE C hz hf pins s σ H vs us Q I r q
theorem s_isX {K : PySem.W.Frag} {a D C : Addr} {b : Bool} {H : Hp} {Q : VK} (c : ExcC K D) (k : PySem.W.kitOne K (.ref D) (.ref C) = some b) (q : Q (.bl b) H) : rIsX K a (.ref D) none [.ref a, .ref C] H Q :=
  ⟨D, rfl, rfl, c, .ref C, .ref C, b, rfl, fun _ r => r, k, q⟩
theorem s_isXt {K : PySem.W.Frag} {a D : Addr} {n : String} {b : Bool} {H : Hp} {Q : VK} (c : ExcC K D) (k : PySem.W.kitOne K (.ref D) (.type n) = some b) (q : Q (.bl b) H) : rIsX K a (.ref D) none [.ref a, .ty n] H Q :=
  ⟨D, rfl, rfl, c, .ty n, .type n, b, rfl, fun _ r => r, k, q⟩
theorem s_callS {sp : Sp} {E : L2.St → XK} {t : TA} {σ : L2.St} {H : Hp} {Q : VK} (h : t σ H fun vs H1 => sp vs H1 Q (E σ)) : tCallS sp E t σ H Q := h
theorem cx_none {P : Program} {w : World} {H : Hp} {s : Shared} {e : Value} {s' : Shared} (h : L2.CX P w [] H s (fun _ _ _ => False) e s') : False := by
  obtain ⟨_, _, _, _, _, _, _, _, _, _, _, _, z⟩ := h
  exact z
end ExcS
/-! ### several clauses behind a try, each with a name or without -/
section HandsS
open PySem.Spec PyProof.Rows
def goneD (i : Nat) (D : Ends) : Ends := ⟨fun σ H => D.nx (σ.set i none) H, D.rt, fun σ H => D.bk (σ.set i none) H, fun σ H => D.ct (σ.set i none) H⟩
/-- what the clauses want of an error: the first whose class fits takes it -/
def wH (K : PySem.W.Frag) (out : WX) (D : Ends) : List (Value × Option Nat × (Addr → Value → Option Addr → TS)) → WX
  | [] => out
  | (c, none, ts) :: r => fun cls d σ H => ∃ b, PySem.W.exmOne K cls c = some b ∧ (b = true → ∀ a, H a = none → ts a cls d D σ H) ∧ (b = false → wH K out D r cls d σ H)
  | (c, some i, ts) :: r => fun cls d σ H => ∃ b, PySem.W.exmOne K cls c = some b ∧ (b = true → ∀ a, H a = none → ts a cls d (goneD i D) (σ.set i (some (.ref a))) H) ∧ (b = false → wH K out D r cls d σ H)
inductive HOks (X : Cx) : List ExceptHandler → List (Value × Option Nat × (Addr → Value → Option Addr → TS)) → Prop
  | nil : HOks X [] []
  | anon {x : Str} {c : Value} {ts : Addr → Value → Option Addr → TS} {b₀ : Stmt} {suite : List Stmt} {np pos : Pos} {hds : List ExceptHandler} {l : List (Value × Option Nat × (Addr → Value → Option Addr → TS))} (hc : Names X x c)
      (hsu : ∀ (a : Addr) (oe : Obj) (cls : Value) (d : Option Addr) (pn : List (Addr × Obj)), Zc cls d oe → (∃ vs, oe.data = .fields vs) → PSs (X.suite a ((a, oe) :: pn)) (b₀ :: suite) (ts a cls d)) (r : HOks X hds l) :
      HOks X (.ExceptHandler (some (.Name x np)) none (b₀ :: suite) pos :: hds) ((c, none, ts) :: l)
  | named {x n : Str} {i : Nat} {c : Value} {ts : Addr → Value → Option Addr → TS} {b₀ : Stmt} {suite : List Stmt} {np pos : Pos} {hds : List ExceptHandler} {l : List (Value × Option Nat × (Addr → Value → Option Addr → TS))}
      (hi : X.N[i]? = some n) (hln : X.env.kindOf n = some .local) (hc : Names X x c)
      (hsu : ∀ (a : Addr) (oe : Obj) (cls : Value) (d : Option Addr) (pn : List (Addr × Obj)), Zc cls d oe → (∃ vs, oe.data = .fields vs) → PSs (X.suite a ((a, oe) :: pn)) (b₀ :: suite) (ts a cls d)) (r : HOks X hds l) :
      HOks X (.ExceptHandler (some (.Name x np)) (some n) (b₀ :: suite) pos :: hds) ((c, some i, ts) :: l)
/-- an error that has come down to the frame of a try -/
structure Down (X : Cx) (pins : List (Addr × Obj)) (σ : L2.St) (H : Hp) (cls : Value) (d : Option Addr) (a : Addr) (B : Heap) (sI s : Shared) : Prop where
  at0 : L2.Inv X pins σ H sI
  nb : ∀ (b : Addr) (o : Obj), sI.heap.get? b = some o → ¬ b ∈ frs X.stack → B.get? b = some o
  up : sI.heap.UpToSlots s.heap
  os : s.os = sI.os
  ag : AllBare s.gens
  na : H a = none
  fl : HandSPX.FlyingZ B (X.env :: X.outer) a (Zc cls d) s.heap
variable {X : Cx} {pins : List (Addr × Obj)} {σ : L2.St} {H : Hp} {cls : Value} {d : Option Addr} {a : Addr} {B : Heap} {sI s : Shared}
theorem Down.inv (D : Down X pins σ H cls d a B sI s) : L2.Inv X pins σ H s := D.at0.landed D.nb D.fl.1 D.up D.os D.ag
theorem Down.obj (D : Down X pins σ H cls d a B sI s) (hf : X.env.frame = some X.env.locals) :
    ∃ oe vs, s.heap.get? a = some oe ∧ Zc cls d oe ∧ oe.data = Data.fields vs ∧ L2.Inv (X.suite a ((a, oe) :: (X.pn ++ pins))) [] σ H s := by
  obtain ⟨oe, vs, e, z, dd⟩ := D.fl.there
  have off : a ∉ frs (X.env :: X.outer) := fun hm => by
    obtain ⟨_, o, e', no⟩ := D.fl.2.2.1.mem hm
    rw [e] at e'
    exact no vs ((Option.some.inj e') ▸ dd)
  have n1 : a ≠ X.env.locals := fun z => off (List.mem_filterMap.mpr ⟨X.env, by simp, by rw [hf, z]⟩)
  have n2 : a ∉ X.fs := fun hm => off (by
    obtain ⟨v, hv, q⟩ := List.mem_filterMap.mp hm
    exact List.mem_filterMap.mpr ⟨v, by simp [hv], q⟩)
  exact ⟨oe, vs, e, z, dd, D.inv.suite e dd D.na n1 n2⟩
theorem Down.next (D : Down X pins σ H cls d a B sI s) {h' : Heap} (f : HandSPX.FlyingZ B (X.env :: X.outer) a (Zc cls d) h') (u : s.heap.UpToSlots h') : Down X pins σ H cls d a B sI { s with heap := h' } :=
  ⟨D.at0, D.nb, D.up.trans u, D.os, D.ag, D.na, f⟩
theorem Down.hands (D : Down X pins σ H cls d a B sI s) {W : WX} {E : Ends} (hs : X.stack = X.env :: X.outer) (hf : X.env.frame = some X.env.locals) (hN : X.N.Nodup) (tk : Takes X W) (ok : X.Ok) {hds : List ExceptHandler} {l : List (Value × Option Nat × (Addr → Value → Option Addr → TS))}
    (hh : HOks X hds l) (w : wH X.K W E l cls d σ H) : wpAny (model X.prog X.w) X.A (handleBy (.ref a) X.env hds) (SP X pins E) X.xe s := by
  induction hh with
  | nil =>
    refine wpAny_handleBy_nil ?_
    obtain ⟨_, _, _, oe, vs, T, oT, ts, he, _, hd, h1, _⟩ := id D.fl
    unfold PySem.passOn
    refine wpAny_bind (wpAny_field he hd h1 ?_)
    rw [if_neg (show ¬ ((Value.ref T == Value.none) = true) from by simp)]
    have out : wpAny (model X.prog X.w) X.A (setFlight (.ref a) X.env.frame) (fun _ s4 => wpAny (model X.prog X.w) X.A (throw (.ref a) : Sem Flow) (SP X pins E) X.xe s4) X.xe s := by
      rw [hf]
      exact HandSPX.setFlight_upZ D.fl fun h4 hh4 u4 => wpAny_throw (tk _ _ ⟨a, B, sI, pins, σ, H, cls, d, rfl, D.at0, D.nb, D.up.trans u4, .inr (.inr (by rw [hs]; exact hh4)), D.na, D.os, D.ag, w⟩)
    first
      | exact wpAny_bind (wpAny_pure (wpAny_bind out))
      | exact wpAny_bind out
  | @anon x c ts b₀ suite np pos hds l hc hsu r ih =>
    obtain ⟨b, e1, yes, no⟩ := w
    obtain ⟨oe, vs, he, hz, _, S⟩ := D.obj hf
    refine wpAny_handleBy_cons (codeAny_handlers_test ?_) (by intro q; cases q)
    have ty : PySem.W.Looks (model X.prog X.w) s.heap (typeOf (.ref a)) cls := fun _ _ _ _ k q => wpAny_typeOf_ref (k _ _ he) (by rw [hz.1]; exact q)
    have fits := PySem.W.exm_one (M := model X.prog X.w) D.inv.kIn ty e1
    have name : ∀ {Q E : Value → Shared → Prop}, Q c s → wpAny (model X.prog X.w) (X.A.mark (some (.ref a))) (eval (.Name x np) X.env) Q E s := fun {Q E} q => by
      obtain ⟨g1, g2, g3 | ⟨g3, g4, g5⟩⟩ := hc
      · exact ld_glob (X := X.suite a ((a, oe) :: (X.pn ++ pins))) S g1 g3 q g2
      · exact ld_blt (X := X.suite a ((a, oe) :: (X.pn ++ pins))) S g1 g3 g4 q g5 g2
    refine name (fits.here ?_)
    cases b with
    | false => exact ih (no rfl)
    | true =>
      refine codeAny_handlers_suite (HandSPX.lands_againZ D.fl fun h4 f4 u4 => ?_)
      obtain ⟨oe4, vs4, _, z4, d4, S4⟩ := (D.next f4 u4).obj hf
      refine wpAny_mono ((hsu a oe4 cls d (X.pn ++ pins) z4 ⟨_, d4⟩).run [] _ σ H E S4 (yes rfl a D.na)) (fun f s6 q => ?_) fun _ _ z => z.elim
      cases f with
      | ret u =>
        obtain ⟨v6, σ6, H6, S6, r6, q6⟩ := q
        exact ⟨v6, σ6, H6, S6.unsuite ok, r6, q6⟩
      | _ =>
        obtain ⟨σ6, H6, S6, q6⟩ := q
        exact ⟨σ6, H6, S6.unsuite ok, q6⟩
  | @named x n i c ts b₀ suite np pos hds l hi hln hc hsu r ih =>
    obtain ⟨b, e1, yes, no⟩ := w
    obtain ⟨oe, vs, he, hz, _, S⟩ := D.obj hf
    refine wpAny_handleBy_cons (codeAny_handlers_test ?_) (by intro q; cases q)
    have ty : PySem.W.Looks (model X.prog X.w) s.heap (typeOf (.ref a)) cls := fun _ _ _ _ k q => wpAny_typeOf_ref (k _ _ he) (by rw [hz.1]; exact q)
    have fits := PySem.W.exm_one (M := model X.prog X.w) D.inv.kIn ty e1
    have name : ∀ {Q E : Value → Shared → Prop}, Q c s → wpAny (model X.prog X.w) (X.A.mark (some (.ref a))) (eval (.Name x np) X.env) Q E s := fun {Q E} q => by
      obtain ⟨g1, g2, g3 | ⟨g3, g4, g5⟩⟩ := hc
      · exact ld_glob (X := X.suite a ((a, oe) :: (X.pn ++ pins))) S g1 g3 q g2
      · exact ld_blt (X := X.suite a ((a, oe) :: (X.pn ++ pins))) S g1 g3 g4 q g5 g2
    refine name (fits.here ?_)
    cases b with
    | false => exact ih (no rfl)
    | true =>
      refine codeAny_handlers_suite_as (HandSPX.lands_againZ D.fl fun h4 f4 u4 => ?_)
      obtain ⟨oe4, vs4, _, z4, d4, S4⟩ := (D.next f4 u4).obj hf
      refine store_ok (X := X.suite a ((a, oe4) :: (X.pn ++ pins))) (v := .ref a) S4 hN hi (.inl hln) rfl (fun s5 S5 => ?_) (.inr hln)
      refine wpAny_mono ((hsu a oe4 cls d (X.pn ++ pins) z4 ⟨_, d4⟩).run [] s5 _ H (goneD i E) S5 (yes rfl a D.na)) (fun f s6 q => ?_) fun _ _ z => z.elim
      cases f with
      | ret u =>
        obtain ⟨v6, σ6, H6, S6, r6, q6⟩ := q
        exact gone_ok (S6.unsuite ok) hN hi hln fun s7 J7 => ⟨_, _, _, J7, r6, q6⟩
      | _ =>
        obtain ⟨σ6, H6, S6, q6⟩ := q
        exact gone_ok (S6.unsuite ok) hN hi hln fun s7 J7 => ⟨_, _, J7, q6⟩
/-- try: body, then clauses with names or without -/
theorem ps_tryH {body : List Stmt} {h₀ : ExceptHandler} {hds : List ExceptHandler} {l : List (Value × Option Nat × (Addr → Value → Option Addr → TS))} {W : WX} {tb : WX → TS} {pos : Pos} (hs : X.stack = X.env :: X.outer) (hf : X.env.frame = some X.env.locals) (hN : X.N.Nodup) (tk : Takes X W)
    (hb : ∀ (V : WX) (pn : List (Addr × Obj)) (xe : Value → Shared → Prop), Takes (X.tr pn xe) V → PassesOwn (model X.prog X.w) X.A X.env xe → PSs (X.tr pn xe) body (tb V))
    (hh : HOks X (h₀ :: hds) l) : PS X (.Try body (h₀ :: hds) [] [] pos) (fun D σ H => tb (wH X.K W D l) D σ H) := by
  refine ⟨fun pins s σ H D I h => ?_⟩
  have ok := I.ok
  refine wpAny_Try_except (wpAny_mono ((hb (wH X.K W D l) (X.pn ++ pins) _ (fun u s' xx => ?_) PassesOwn.looking).run [] s σ H D (I.toTry _) h) (fun f s1 q => ?_) fun e s1 he => he)
  · obtain ⟨a, B, sI, pins', σ', H', cls, d, rfl, J', nb, up, sky, na, os, ag, w⟩ := xx
    have sky' : Sky B (X.env :: X.outer) a (Zc cls d) X.env.locals s'.heap := by rw [← hs]; exact sky
    exact Sky.land Zc.steady (by rw [ok.frames, hs]) hf sky' fun h3 f3 u3 => Down.hands (s := { s' with heap := h3 }) ⟨J'.ofTry ok, nb, up.trans u3, os, ag, na, f3⟩ hs hf hN tk ok hh w
  · cases f with
    | next =>
      obtain ⟨σ', H', J', q⟩ := q
      exact wpAny_execs_nil ⟨σ', H', J'.ofTry ok, q⟩
    | ret u =>
      obtain ⟨v, σ', H', J', r, q⟩ := q
      exact ⟨v, σ', H', J'.ofTry ok, r, q⟩
    | _ =>
      obtain ⟨σ', H', J', q⟩ := q
      exact ⟨σ', H', J'.ofTry ok, q⟩
end HandsS
section ClsS
open PyProof.Rows
/-! ### own classes -/
structure ClF (K : PySem.W.Frag) (mg : Str → Option Value) (nm : Str) : Prop where
  g : mg nm = some (.ref (exA mg nm))
  cl : Cls K (exA mg nm)
theorem ClF.mk' {K : PySem.W.Frag} {mg : Str → Option Value} {nm : Str} {C : Addr} (g : mg nm = some (.ref C)) (c : Cls K C) : ClF K mg nm := by
  have e := exA_of g
  exact ⟨by rw [e]; exact g, by rw [e]; exact c⟩
/-- a method that stands, with its promise -/
structure FnC (P : Program) (w : World) (K : PySem.W.Frag) (mg : Str → Option Value) (base : Heap) (CX : CXT) (k : Nat) (nm qual : Str) (st : Stmt) (f : Addr) (fd : FuncData) (ps : List Str) (sp : Sp) : Prop where
  G : FnOk P w K mg base CX k f fd ps sp
  b : Binds K fd ps []
  F : Fun K nm qual st f fd
theorem pe_fldK {X : Cx} (K : PySem.W.Frag) (eK : X.K = K) {e : Expr} {f : Str} {pos : Pos} {ta : TE} (he : PE X e ta) (hb : attributeBase e f X.env (eval e X.env) = eval e X.env) : PE X (.Attribute e f pos) (tFld K ta f) := by subst eK; exact pe_fld he hb
theorem c_any {X : Cx} (K : PySem.W.Frag) (e : X.K = K) (hc : X.calm = true) : CallR X (.builtin "any") (rAny K) := by subst e; exact cr_any hc
theorem s_make {C : Addr} {sp : Sp} {dvs : List V} {E : XK} {t : TA} {σ : L2.St} {H : Hp} {Q : VK} (h : t σ H fun vs H1 => ∀ x dx, H1 x = none → H1 dx = none → dx ≠ x → sp (.ref x :: (vs ++ dvs)) (upd (upd H1 dx (.own x)) x (.ins C dx [])) (fun v H2 => v = .non ∧ Q (.ref x) H2) E) : tMake C sp dvs E t σ H Q := h
theorem s_meth {C : Addr} {m : Str} {sp : Sp} {dvs : List V} {E : XK} {ta : TE} {t : TA} {σ : L2.St} {H : Hp} {Q : VK} (h : ta σ H fun x H1 => ∃ a dx fs, x = .ref a ∧ H1 a = some (.ins C dx fs) ∧ fs.lookup m = none ∧ t σ H1 fun vs H2 => sp (x :: (vs ++ dvs)) H2 Q E) : tMeth C m sp dvs E ta t σ H Q := h
theorem s_prop {C : Addr} {sp : Sp} {dvs : List V} {E : XK} {ta : TE} {σ : L2.St} {H : Hp} {Q : VK} (h : ta σ H fun x H1 => ∃ a dx fs, x = .ref a ∧ H1 a = some (.ins C dx fs) ∧ sp (.ref a :: dvs) H1 Q E) : tProp C sp dvs E ta σ H Q := h
theorem s_fld {K : PySem.W.Frag} {f : Str} {ta : TE} {σ : L2.St} {H : Hp} {Q : VK} (h : ta σ H fun x H1 => ∃ a C dx fs v, x = .ref a ∧ H1 a = some (.ins C dx fs) ∧ Cls K C ∧ NoAttr K C f ∧ fs.lookup f = some v ∧ Q v H1) : tFld K ta f σ H Q := h
theorem s_sfld {K : PySem.W.Frag} {f : Str} {ta tv : TE} {D : Ends} {σ : L2.St} {H : Hp} (h : tv σ H fun y H1 => ta σ H1 fun x H2 => ∃ a C dx fs, x = .ref a ∧ H2 a = some (.ins C dx fs) ∧ Cls K C ∧ NoAttr K C f ∧ fs.length < 1000 ∧ D.nx σ (upd H2 a (.ins C dx (putF f y fs)))) : sFld K ta tv f D σ H := h
/-- o.m(k = v, ..) -/
def tMethK0 (C : Addr) (m : Str) (sp : Sp) (gV : List V → List V → List V) (E : XK) (ta : TE) (tk : TA) : TE := fun σ H Q => ta σ H fun x H1 => ∃ a dx fs, x = .ref a ∧ H1 a = some (.ins C dx fs) ∧ fs.lookup m = none ∧ tk σ H1 fun zs H2 => sp (gV [x] zs) H2 Q E
theorem pe_methK0 {X : Cx} {CX : CXT} {k : Nat} {f C : Addr} {fd : FuncData} {ps ks : List Str} {sp : Sp} {E : XK} {m : Str} {pos apos : Pos} {o : Expr} {ta : TE} {kws : List Keyword} {tk : TA} {g : List Value → List Value → List Value} {gV : List V → List V → List V} {pl : Sem Bool}
    (he : PE X o ta) (c : Cls X.K C) (hm : Meth X.K C m f) (F : FnOk X.prog X.w X.K X.mg X.base CX k f fd ps sp) (hr : Room k X.A) (hb : KBinds X.K fd ps ks g gV) (hx : Passes CX X E) (hkw : PK X kws tk)
    (hall : (backToKw pos (keywordEach kws X.env)).all (·.1.isSome) = true := by rfl) (hks : (backToKw pos (keywordEach kws X.env)).filterMap (·.1) = ks := by rfl)
    (hpl : ((backTo pos (starEach [] X.env)).any (·.1) || (backToKw pos (keywordEach kws X.env)).any (·.1.isNone)) = false := by rfl)
    (ht : eval (.Call (.Attribute o m apos) [] kws pos) X.env = (do
      let ov ← eval o X.env
      standAt apos.atName
      let (f, first) ← holding [ov] (getMethod ov m pl)
      callWith pos f first (backTo pos (starEach [] X.env)) (backToKw pos (keywordEach kws X.env))) := by rfl) :
    PE X (.Call (.Attribute o m apos) [] kws pos) (tMethK0 C m sp gV E ta tk) := by
  refine ⟨fun pins s σ H Q I h => ?_⟩
  refine PySem.W.methodCall_KW (pl := pl) (thn (he.run pins s σ H _ I h) fun u s1 ⟨x, H1, I1, rx, a, dx, fs, ex, ea, l, q⟩ => ?_) ht
  subst ex
  obtain rfl : u = Value.ref a := rx
  refine getmeth_ok I1 ea c hm l ?_
  refine PySem.W.callWith_KW0 (first := [.ref a]) (h₀ := X.base) I1.ok.mod.kin hm.kp hall ?_ hpl
  refine thn (hkw.run pos pins s1 σ H1 _ I1 q) fun ws s2 ⟨zs, H2, I2, rz, q2⟩ => ⟨I2.kIn, ?_⟩
  rw [hks]
  exact run_fnk (us := [.ref a]) (vs := [.ref a]) F hr hb hx I2 (.cons rfl .nil) rz q2
theorem s_methK0 {C : Addr} {m : Str} {sp : Sp} {gV : List V → List V → List V} {E : XK} {ta : TE} {tk : TA} {σ : L2.St} {H : Hp} {Q : VK} (h : ta σ H fun x H1 => ∃ a dx fs, x = .ref a ∧ H1 a = some (.ins C dx fs) ∧ fs.lookup m = none ∧ tk σ H1 fun zs H2 => sp (gV [x] zs) H2 Q E) : tMethK0 C m sp gV E ta tk σ H Q := h
end ClsS
theorem SqT.ofK {K : PySem.W.Frag} {H : Hp} {a : Addr} {xs : List V} {o : Obj} {its : Array Value} {n : Nat} (hk : K.lookup a = some o) (hc : o.cls = .type "tuple") (hd : o.data = .seq its n) (hz : its.size ≤ sizeLine) (r : Vals xs its.toList) : SqT K H a xs := .inr ⟨o, its, n, hk, hc, hd, hz, r⟩
theorem CTup.mk' {K : PySem.W.Frag} {mg : Str → Option Value} {nm : Str} {R : Addr} {xs : List V} (g : mg nm = some (.ref R)) (h : ∀ H, SqT K H R xs) : mg nm = some (.ref (exA mg nm)) ∧ ∀ H, SqT K H (exA mg nm) xs := by
  have e := exA_of g
  exact ⟨by rw [e]; exact g, fun H => by rw [e]; exact h H⟩
theorem sl_tupK {X : Cx} (K : PySem.W.Frag) (e : X.K = K) : SlR X (rSlT K) := by subst e; exact sl_tup
theorem _root_.L2.Fun.kbinds1 {K : PySem.W.Frag} {x qual : Str} {st : Stmt} {f : Addr} {fd : FuncData} {ps : List Str} (F : Fun K x qual st f fd) (ks : List Str) (hn : 0 < ps.length)
    (h : ∀ (kV doc pm : Value) (an : Option Addr) (cdv ct : Value) (us ws : List Value), us.length = 1 → ws.length = ks.length → bindArgs (PySem.W.fnOf x qual (defArgs st) (defBody st) (defScope st) .none kV doc pm an cdv ct) ⟨us, ks.zip ws⟩ = pure (ps.zip (us ++ ws))) :
    KBn K fd ps 1 ks (fun us ws => us ++ ws) (fun us ws => us ++ ws) := by
  obtain ⟨oc, od, kV, doc, pm, an, cdv, ct, osl, rfl, lk, hcd⟩ := F.ex
  exact ⟨fun s us ws _ h1 h2 => .of_eq (h kV doc pm an cdv ct us ws h1 h2), fun r rz => r.append rz⟩
section SumT
open PyProof.Rows PySem
/-! ### sum of a tuple of ints -/
section
variable {prog : Program} {w : World} {A : Around} {E : Value → Shared → Prop} {s : Shared} {l : Addr} {xs : Array (Int × Tok)}
theorem sum_intTup {Q : Value → Shared → Prop} (hh : A.handled = none) (hl : s.heap.IsTuple l (intItems xs))
    (h : ∀ h' tk t', (∀ b o, s.heap.get? b = some o → h'.get? b = some o) → Q (.int (preSum (numAt xs) xs.size) t') { s with heap := h', toks := tk }) :
    wpAny (model prog w) A (call (.builtin "sum") [.ref l]) Q E s := by
  have hlt : l < s.heap.objs.size := by obtain ⟨_, e, _⟩ := hl; exact Heap.lt_size e
  refine call_sum_walkG (wpAny_pyIter_tuple hl ?_)
  refine ⟨s.heap.objs.size, _, _, _, _, _, numAt xs, rfl, Walks.tuple (A := A.in1) hh _ l (Nat.ne_of_lt hlt) (intItems xs), ⟨⟨_, Heap.get?_push_size _ rfl, rfl, rfl⟩, hl.at fun o e => Heap.get?_push_of_some _ e⟩, fun b hb => ?_, (fun _ _ => intItems_at), fun h' tk t' hk => ?_⟩
  · show b < (s.heap.push _).objs.size
    rw [Heap.size_push]
    rcases List.mem_cons.mp hb with rfl | hb
    · exact Nat.lt_succ_self _
    · rcases List.mem_cons.mp hb with rfl | hb
      · exact Nat.lt_succ_of_lt hlt
      · cases hb
  · have := h h' tk t' (fun b o e => hk b o (by
      simp only [List.mem_singleton]
      intro z
      rw [z] at e
      exact absurd (Heap.lt_size e) (Nat.lt_irrefl _)) (Heap.get?_push_of_some _ e))
    simpa [intItems] using this
end
def rSumT (K : PySem.W.Frag) : List V → Hp → VK → Prop := fun vs H Q => ∃ (a : Addr) (ns : List Int), vs = [V.ref a] ∧ SqT K H a (ns.map V.int) ∧ Q (.int ns.sum) H
theorem cr_sumT {X : Cx} (hc : X.calm = true) : CallR X (.builtin "sum") (rSumT X.K) := by
  intro pins s σ H vs us Q I r h
  obtain ⟨a, ns, rfl, hs, q⟩ := h
  obtain ⟨its, rv, hl, _⟩ := I.tuple hs
  rw [Vals.ref1 r]
  have hi := rv.ints
  obtain ⟨xs, e⟩ := hi.allInts.items
  have hn : numsOf (intItems xs).toList = ns := by rw [← e]; exact hi.numsOf
  rw [nums_intItems] at hn
  obtain ⟨o, ho, hc2, n, hd⟩ := hl
  rw [e] at hd
  refine sum_intTup (I.ok.hd hc) ⟨o, ho, hc2, n, hd⟩ fun h' tk t' hk => ⟨.int _, H, I.kept hk, ⟨_, rfl⟩, ?_⟩
  rw [preSum_eq, List.take_of_length_le (by simp), hn]; exact q
/-- a list or a tuple of ints -/
def SqN (K : PySem.W.Frag) (H : Hp) (a : Addr) (ns : List Int) : Prop := SqL K H a (ns.map V.int) ∨ SqT K H a (ns.map V.int)
def rSumN (K : PySem.W.Frag) : List V → Hp → VK → Prop := fun vs H Q => ∃ (a : Addr) (ns : List Int), vs = [V.ref a] ∧ SqN K H a ns ∧ Q (.int ns.sum) H
theorem c_sumN {X : Cx} (K : PySem.W.Frag) (eK : X.K = K) (hc : X.calm = true) : CallR X (.builtin "sum") (rSumN K) := by
  subst eK
  intro pins s σ H vs us Q I r h
  obtain ⟨a, ns, e, hs, q⟩ := h
  rcases hs with hs | hs
  · exact cr_sum hc pins s σ H vs us Q I r ⟨a, ns, e, hs, q⟩
  · exact cr_sumT hc pins s σ H vs us Q I r ⟨a, ns, e, hs, q⟩
end SumT
/-! ### nodes and tables -/
/-- the number of doublings -/
def IsK (w : Int) (k : Nat) : Prop := 65536 ≤ w * 2 ^ k ∧ ∀ i < k, w * 2 ^ i < 65536
theorem IsK.uniq {w : Int} {k j : Nat} (h : IsK w k) (g : IsK w j) : k = j := by
  rcases Nat.lt_trichotomy k j with c | c | c
  · have := g.2 k c; have := h.1; omega
  · exact c
  · have := h.2 j c; have := g.1; omega
/-- the border ahead of a letter -/
def bord (w : Int) (cs : List Int) (i : Nat) : Int := w * (cs.take i).sum / cs.sum
structure CsOk (cs : List Int) : Prop where
  pos : ∀ c ∈ cs, 1 ≤ c
  le : cs.sum ≤ 64
  n0 : 2 ≤ cs.length
theorem sum_pos : ∀ cs : List Int, (∀ c ∈ cs, 1 ≤ c) → (cs.length : Int) ≤ cs.sum
  | [], _ => by simp
  | c :: r, h => by
    have := sum_pos r fun x hx => h x (List.mem_cons_of_mem _ hx)
    have := h c (by simp)
    rw [List.sum_cons, List.length_cons]; omega
theorem sum_take_le {cs : List Int} (h : ∀ c ∈ cs, 1 ≤ c) (i : Nat) : 0 ≤ (cs.take i).sum ∧ (cs.take i).sum ≤ cs.sum := by
  have h1 := sum_pos (cs.take i) fun x hx => h x (List.mem_of_mem_take hx)
  have h2 := sum_pos (cs.drop i) fun x hx => h x (List.mem_of_mem_drop hx)
  have e : cs.sum = (cs.take i).sum + (cs.drop i).sum := by rw [← List.sum_append, List.take_append_drop]
  omega
theorem sum_take_succ {cs : List Int} {i : Nat} (h : i < cs.length) : (cs.take (i + 1)).sum = (cs.take i).sum + cs[i] := by
  rw [List.take_succ_eq_append_getElem h, List.sum_append]; simp
theorem CsOk.sum (h : CsOk cs) : 2 ≤ cs.sum := by
  have := sum_pos cs h.pos
  have := h.n0
  omega
/-- a letter's part is not narrow -/
theorem part_wide {cs : List Int} {w : Int} (h : CsOk cs) (hw : 65536 ≤ w) {i : Nat} (hi : i < cs.length) : 1024 ≤ bord w cs (i + 1) - bord w cs i := by
  have hs := h.sum
  have hl := h.le
  unfold bord
  rw [sum_take_succ hi]
  have hc := h.pos _ (List.getElem_mem hi)
  have hb := (sum_take_le h.pos i).1
  generalize (cs.take i).sum = b at hb
  generalize cs[i] = c at hc
  generalize cs.sum = t at hs hl
  have h1 : w * (b + c) = w * b + w * c := by rw [Int.mul_add]
  have h2 : 1024 * t ≤ w * c := by
    have : 65536 * 1 ≤ w * c := Int.mul_le_mul hw hc (by decide) (by omega)
    omega
  have h3 : w * b / t + 1024 ≤ (w * b + w * c) / t := by
    have : (w * b + 1024 * t) / t = w * b / t + 1024 := by rw [Int.add_mul_ediv_right _ _ (by omega)]
    rw [← this]
    exact Int.ediv_le_ediv (by omega) (by omega)
  rw [h1]; omega
theorem bord_zero (w : Int) (cs : List Int) : bord w cs 0 = 0 := by simp [bord]
theorem bord_all {w : Int} {cs : List Int} (h : CsOk cs) : bord w cs cs.length = w := by
  have := h.sum
  unfold bord
  rw [List.take_length, Int.mul_ediv_cancel _ (by omega)]
theorem bord_le {w : Int} {cs : List Int} (h : CsOk cs) (hw : 0 ≤ w) (i : Nat) : 0 ≤ bord w cs i ∧ bord w cs i ≤ w := by
  have hs := h.sum
  have hb := sum_take_le h.pos i
  unfold bord
  refine ⟨Int.ediv_nonneg (Int.mul_nonneg hw hb.1) (by omega), ?_⟩
  refine Int.le_trans (Int.ediv_le_ediv (by omega) (Int.mul_le_mul_of_nonneg_left hb.2 hw)) ?_
  rw [Int.mul_ediv_cancel _ (by omega)]
  omega
theorem isK_le {w : Int} {k : Nat} (h : IsK w k) (hw : 1024 ≤ w) : k ≤ 6 := by
  refine Nat.le_of_not_lt fun c => ?_
  have := h.2 6 (by omega)
  omega
theorem isK_lt {w : Int} {k : Nat} (h : IsK w k) (hw : w < 131072) : w * 2 ^ k < 131072 := by
  cases k with
  | zero => simp; exact hw
  | succ k =>
    have := h.2 k (by omega)
    rw [Int.pow_succ, ← Int.mul_assoc]; omega
/-- a table learns -/
def learnL (cs : List Int) (j : Nat) : List Int := if (cs.set j (cs.getD j 0 + 2)).sum > 64 then (cs.set j (cs.getD j 0 + 2)).map (fun o => (o + 1) / 2) else cs.set j (cs.getD j 0 + 2)
theorem learnL_len (cs : List Int) (j : Nat) : (learnL cs j).length = cs.length := by unfold learnL; split <;> simp
section Lc2
variable {F H : Hp} {σ : L2.St} {Q : VK}
def lc2T (J : It) (g : TG) (tt : TT) (wi1 : TI) (g1 : TG) (tt1 : TT) (te : TE) (vs vs1 : List Nat) : TE := tLc2 (fun _ H R => R J H) g tt wi1 g1 tt1 te vs vs1
theorem s_lc2 {wi : TI} {g : TG} {tt : TT} {wi1 : TI} {g1 : TG} {tt1 : TT} {te : TE} {vs vs1 : List Nat} (h : wi σ H fun J H1 => lc2T J g tt wi1 g1 tt1 te vs vs1 σ H1 Q) : tLc2 wi g tt wi1 g1 tt1 te vs vs1 σ H Q := h
/-- the second source's own loop, from which Nx is reached -/
def InW (d : Addr) (J1 : It) (g1 : TG) (tt1 : TT) (te : TE) (vs1 : List Nat) (σ2 : L2.St) (Nx : Hp → Prop) (H4 : Hp) : Prop := ∃ W1 : Nat → Nat → Hp → Prop, (∃ m, W1 0 m H4) ∧ ∀ j k H, W1 j k H →
      (J1.stop j H ∧ Nx H) ∨ (J1.go j H ∧ ∃ Nx1 : Hp → Prop, (∀ H', Nx1 H' → ∃ k', k' < k ∧ W1 (j + 1) k' H') ∧ ∀ x H', J1.yld j H x H' → g1 x (wipe σ2 vs1) H' fun σ3 H5 => wipe σ3 vs1 = wipe σ2 vs1 ∧ tt1 σ3 H5 fun b H6 =>
        if b = true then te σ3 H6 fun y H7 => ∃ acc, H7 d = some (.lst acc) ∧ acc.length < sizeLine ∧ Nx1 (upd H7 d (.lst (acc ++ [y]))) else Nx1 H6)
theorem lc2_in {J1 : It} {N i : Nat} {G1 : Hp → Prop} {Y1 : Nat → Hp → V → Hp → Prop} {g1 : TG} {tt1 : TT} {te : TE} {vs1 : List Nat} {σ2 : L2.St} {S : Addr → Prop} {R : Nat → List V → Hp → Hp → Prop} {d : Addr} {H5 : Hp} (w1 : Walk J1 N G1 Y1) (hG1 : ∀ F1 H1, Stp S F H F1 H1 → G1 H1) (p0 : LcP S F H d R (i * N) H5)
    (hin : ∀ j x acc F1 H1 H2, j < N → Y1 j H1 x H2 → Stp S F H F1 H1 → F1 d = none → H1 d = some (.lst acc) → acc.length ≤ i * N + j → R (i * N + j) acc F1 H1 → g1 x (wipe σ2 vs1) H2 fun σ3 H3 => wipe σ3 vs1 = wipe σ2 vs1 ∧ tt1 σ3 H3 fun b H4 =>
          if b = true then te σ3 H4 fun y H5 => ∃ acc', H5 d = some (.lst acc') ∧ acc'.length < sizeLine ∧ LcP S F H d R (i * N + j + 1) (upd H5 d (.lst (acc' ++ [y]))) else LcP S F H d R (i * N + j + 1) H4) :
    InW d J1 g1 tt1 te vs1 σ2 (LcP S F H d R ((i + 1) * N)) H5 := by
  refine ⟨fun j k Hc => k = N - j ∧ j ≤ N ∧ LcP S F H d R (i * N + j) Hc, ⟨N, by simp, Nat.zero_le _, p0⟩, ?_⟩
  rintro j k Hc ⟨rfl, hj, p⟩
  have q1 : G1 Hc := by
    obtain ⟨⟨Fc, acc, st, _⟩, _⟩ := p
    exact hG1 _ _ st
  by_cases hjl : j < N
  · refine .inr ⟨w1.goes j Hc hjl q1, LcP S F H d R (i * N + j + 1), fun H' p' => ⟨N - (j + 1), by omega, rfl, hjl, p'⟩, fun x H' y => ?_⟩
    obtain ⟨⟨Fc, acc, st, f0, e, hl, r⟩, _⟩ := p
    exact hin j x acc Fc Hc H' hjl (w1.yields j Hc x H' hjl q1 y) st f0 e hl r
  · have ej : j = N := by omega
    subst ej
    exact .inl ⟨w1.stops Hc q1, by rw [Nat.succ_mul]; exact p⟩
theorem lc2W {J : It} {n : Nat} {G : Hp → Prop} {Y : Nat → Hp → V → Hp → Prop} {g : TG} {tt : TT} {wi1 : TI} {g1 : TG} {tt1 : TT} {te : TE} {vs vs1 : List Nat} (w : Walk J n G Y) (N : Nat) (S : Addr → Prop) (hF : Same F H) (hS : ∀ b, S b → ∃ o, H b = some o)
    (hG : ∀ F1 H1, Stp S F H F1 H1 → G H1) (R : Nat → List V → Hp → Hp → Prop) (hR : ∀ i acc F1 H1 d o, ¬ S d → F1 d = none → Stp S F H F1 H1 → R i acc F1 H1 → R i acc F1 (upd H1 d o)) (h0 : R 0 [] F H)
    (hs : ∀ i x acc d F1 H1 H2, i < n → Y i H1 x H2 → H d = none → ¬ S d → Stp S F H F1 H1 → F1 d = none → H1 d = some (.lst acc) → acc.length ≤ i * N → R (i * N) acc F1 H1 → g x (wipe σ vs) H2 fun σ2 H3 => wipe σ2 vs = wipe σ vs ∧ tt σ2 H3 fun b H4 =>
      if b = true then wi1 σ2 H4 fun J1 H5 => InW d J1 g1 tt1 te vs1 σ2 (LcP S F H d R ((i + 1) * N)) H5 else LcP S F H d R ((i + 1) * N) H4)
    (hd : ∀ d acc F0 F1 H1, Stp S F H F0 H1 → H d = none → F0 d = none → F1 = upd F0 d (.lst acc) → Stp S F H F1 H1 → acc.length ≤ n * N → R (n * N) acc F0 H1 → Q (.ref d) H1) : lc2T J g tt wi1 g1 tt1 te vs vs1 σ H Q := by
  intro d hd0
  have nS : ¬ S d := fun z => by
    obtain ⟨o, e⟩ := hS d z
    rw [hd0] at e; cases e
  have hGP : ∀ i Hc, LcP S F H d R i Hc → G Hc := fun i Hc p => by
    obtain ⟨⟨Fc, acc, st, _⟩, _⟩ := p
    exact hG _ _ st
  refine ⟨fun i m Hc => m = n - i ∧ i ≤ n ∧ LcP S F H d R (i * N) Hc, ⟨n, by simp, Nat.zero_le _, ⟨F, [], Stp.cell hF hd0, hF.free hd0, upd_same, by simp, by rw [Nat.zero_mul]; exact hR 0 [] F H d _ nS (hF.free hd0) (.rfl' hF) h0⟩, hd0⟩, ?_⟩
  rintro i m Hc ⟨rfl, hi, p⟩
  have q := hGP _ Hc p
  by_cases hlt : i < n
  · refine .inr ⟨w.goes i Hc hlt q, LcP S F H d R ((i + 1) * N), fun H' p' => ⟨n - (i + 1), by omega, rfl, hlt, p'⟩, fun x H' y => ?_⟩
    obtain ⟨⟨Fc, acc, st, f0, e, hl, r⟩, _⟩ := p
    exact hs i x acc d Fc Hc H' hlt (w.yields i Hc x H' hlt q y) hd0 nS st f0 e hl r
  · have e : i = n := by omega
    subst e
    refine .inl ⟨w.stops Hc q, ?_⟩
    obtain ⟨⟨Fc, acc, st, f0, e, hl, r⟩, _⟩ := p
    exact hd d acc Fc _ Hc st hd0 f0 rfl (st.freeze hd0 e f0) hl r
end Lc2
open PySem L2
/-! one step that needs no thought -/
local macro_rules | `(tactic| walk_at "cond") => `(tactic| first
  | decide
  | exact .inl ⟨by decide, by decide⟩
  | exact .inr ⟨by decide, by decide⟩
  | exact ⟨by decide, by decide⟩
  | exact ⟨by decide, by decide, by decide⟩
  | assumption
  | (show (0 : Int) < _; omega)
  | (show (0 : Int) ≤ _; omega)
  | exact .inl ⟨by omega, by omega⟩
  | exact .inr ⟨by omega, by omega⟩
  | exact ⟨by omega, by omega⟩
  | exact ⟨by omega, by omega, by omega⟩)
local macro_rules | `(tactic| walk_at "sq") => `(tactic| first
  | assumption
  | exact SqL.of (by assumption)
  | exact SqT.of (by assumption)
  | exact SqL.of upd_same
  | exact SqT.of upd_same)
local macro_rules | `(tactic| walk_at "r1") => `(tactic| first
  | (with_reducible refine s_seq ?_)
  | (with_reducible refine s_next ?_)
  | (with_reducible refine s_asg ?_)
  | (with_reducible refine s_gname ?_)
  | (with_reducible refine s_ret ?_)
  | (with_reducible refine s_if ?_)
  | (with_reducible refine s_drop ?_)
  | (with_reducible refine s_op ?_)
  | (with_reducible refine s_c ?_)
  | (with_reducible refine s_tup ?_)
  | (with_reducible refine s_lst ?_)
  | (with_reducible refine s_nil ?_)
  | (with_reducible refine s_cons ?_)
  | (with_reducible refine s_call ?_)
  | (with_reducible refine s_cb ?_)
  | (with_reducible refine s_test ?_)
  | (with_reducible refine s_tB ?_)
  | (with_reducible refine s_b ?_)
  | (with_reducible refine s_not ?_)
  | (with_reducible refine s_and ?_)
  | (with_reducible refine s_or ?_)
  | (with_reducible refine s_un ?_)
  | (with_reducible refine s_U ?_)
  | (with_reducible refine s_ifE ?_)
  | (with_reducible refine s_andV0 ?_)
  | (with_reducible refine s_orV0 ?_)
  | (with_reducible refine s_notV ?_)
  | (with_reducible refine s_I0 ?_)
  | (with_reducible refine s_chain ?_)
  | (with_reducible refine s_par3 ?_)
  | (with_reducible refine s_par ?_)
  | (with_reducible refine s_v2 ?_)
  | (with_reducible refine s_v3 ?_)
  | (with_reducible refine s_eqI ?_)
  | (with_reducible refine s_neI ?_)
  | (with_reducible refine s_eqS ?_)
  | (with_reducible refine s_neS ?_)
  | (with_reducible refine s_max2 ?_)
  | (with_reducible refine s_min2 ?_)
  | (with_reducible refine s_int1 ?_)
  | (with_reducible refine s_int1b ?_)
  | ((with_reducible refine' s_var ?h ?q); (case h => rfl))
  | (with_reducible refine s_for ?_)
  | (with_reducible refine s_iR1 ?_)
  | (with_reducible refine s_iR2 ?_)
  | (with_reducible refine s_iR3 ?_)
  | (with_reducible refine s_sl ?_)
  | (with_reducible refine s_part ?_)
  | (with_reducible refine s_nopart ?_)
  | (with_reducible refine s_iL ?_)
  | (with_reducible refine s_iT ?_)
  | (with_reducible refine s_iS ?_)
  | (with_reducible refine s_lc ?_)
  | (with_reducible refine s_yes ?_)
  | ((with_reducible refine' s_wipe ?h ?q); (case h => rfl))
  | (with_reducible refine s_callK0 ?_)
  | (with_reducible refine s_bits ?_)
  | (with_reducible refine s_i ?_)
  | (with_reducible refine s_bm ?_)
  | (with_reducible refine s_bm0 ?_)
  | (with_reducible refine s_m1 ?_)
  | (with_reducible refine s_callK ?_)
  | (with_reducible refine s_gsub ?_)
  | ((with_reducible refine' s_gtup ?h ?e ?q); (case h => walk_at "sq"); (case e => rfl))
  | (with_reducible refine s_gcons ?_)
  | (with_reducible refine s_gnil ?_)
  | ((with_reducible refine s_I ?c ?q); (case c => walk_at "cond"))
  | ((with_reducible refine' s_ixL ?h ?a ?q); (case h => walk_at "sq"); (case a => rfl))
  | ((with_reducible refine' s_ixT ?h ?a ?q); (case h => walk_at "sq"); (case a => rfl))
  | ((with_reducible refine' s_setL ?h ?a ?q); (case h => first | assumption | exact upd_same); (case a => rfl))
  | ((with_reducible refine' s_len ?h ?q); (case h => walk_at "sq"))
  | ((with_reducible refine' s_lenT ?h ?q); (case h => walk_at "sq"))
  | (with_reducible refine iteT ?_)
  | (with_reducible refine iteF ?_)
  | (with_reducible refine itNF ?_)
  | (with_reducible refine itNT ?_))
local macro_rules | `(tactic| walk_at "r") => `(tactic| (repeat walk_at "r1"))
local macro_rules | `(tactic| walk_at "r1") => `(tactic| (with_reducible refine s_fmtB ?_))
local macro_rules | `(tactic| walk_at "r1") => `(tactic| (with_reducible refine s_callS ?_))
local macro_rules | `(tactic| walk_at "r1") => `(tactic| first
  | (with_reducible refine s_make ?_)
  | (with_reducible refine s_meth ?_)
  | (with_reducible refine s_prop ?_)
  | (with_reducible refine s_fld ?_)
  | (with_reducible refine s_sfld ?_)
  | (with_reducible refine s_methK0 ?_))
def topS (i : Nat) : Stmt := PySem.Challenge.pw_narrowingbits_k11_told_grows_with_bits.main.body.getD i (.Pass ⟨0, 0, 0, 0⟩)
structure Zs (K : PySem.W.Frag) (mg : Str → Option Value) : Prop where
  z_any : mg "any" = none
  z_bool : mg "bool" = none
  z_int : mg "int" = none
  z_isinstance : mg "isinstance" = none
  z_len : mg "len" = none
  z_list : mg "list" = none
  z_max : mg "max" = none
  z_min : mg "min" = none
  z_range : mg "range" = none
  z_sum : mg "sum" = none
  z_tuple : mg "tuple" = none
  e_FAR : ∃ t, mg "FAR" = some (.int (2) t)
  e_GAIN : ∃ t, mg "GAIN" = some (.int (2) t)
  e_HALF_WIDTH : ∃ t, mg "HALF_WIDTH" = some (.int (32768) t)
  e_LEAST_WIDTH : ∃ t, mg "LEAST_WIDTH" = some (.int (65536) t)
  e_MOST_NEAR : ∃ t, mg "MOST_NEAR" = some (.int (2) t)
  e_MOST_PLANES : ∃ t, mg "MOST_PLANES" = some (.int (20) t)
  e_MOST_TOTAL : ∃ t, mg "MOST_TOTAL" = some (.int (64) t)
  e_NEAR : ∃ t, mg "NEAR" = some (.int (0) t)
  e_OLD : ∃ t, mg "OLD" = some (.int (4) t)
  e_ROOT_SCALE : ∃ t, mg "ROOT_SCALE" = some (.int (16) t)
  e_SHARPER : ∃ t, mg "SHARPER" = some (.int (1) t)
  e_YOUNG : ∃ t, mg "YOUNG" = some (.int (3) t)
  x_BadBits : ExF K mg "BadBits"
  x_BadGrid : ExF K mg "BadGrid"
  x_Outside : ExF K mg "Outside"
  s_BadBits_BadBits : PySem.W.subIn K (.ref (exA mg "BadBits")) (.ref (exA mg "BadBits")) = some true
  k_BadBits_BadBits : PySem.W.kitOne K (.ref (exA mg "BadBits")) (.ref (exA mg "BadBits")) = some true
  s_BadBits_BadGrid : PySem.W.subIn K (.ref (exA mg "BadBits")) (.ref (exA mg "BadGrid")) = some false
  k_BadBits_BadGrid : PySem.W.kitOne K (.ref (exA mg "BadBits")) (.ref (exA mg "BadGrid")) = some false
  s_BadBits_Outside : PySem.W.subIn K (.ref (exA mg "BadBits")) (.ref (exA mg "Outside")) = some false
  k_BadBits_Outside : PySem.W.kitOne K (.ref (exA mg "BadBits")) (.ref (exA mg "Outside")) = some false
  s_BadGrid_BadBits : PySem.W.subIn K (.ref (exA mg "BadGrid")) (.ref (exA mg "BadBits")) = some false
  k_BadGrid_BadBits : PySem.W.kitOne K (.ref (exA mg "BadGrid")) (.ref (exA mg "BadBits")) = some false
  s_BadGrid_BadGrid : PySem.W.subIn K (.ref (exA mg "BadGrid")) (.ref (exA mg "BadGrid")) = some true
  k_BadGrid_BadGrid : PySem.W.kitOne K (.ref (exA mg "BadGrid")) (.ref (exA mg "BadGrid")) = some true
  s_BadGrid_Outside : PySem.W.subIn K (.ref (exA mg "BadGrid")) (.ref (exA mg "Outside")) = some false
  k_BadGrid_Outside : PySem.W.kitOne K (.ref (exA mg "BadGrid")) (.ref (exA mg "Outside")) = some false
  s_Outside_BadBits : PySem.W.subIn K (.ref (exA mg "Outside")) (.ref (exA mg "BadBits")) = some false
  k_Outside_BadBits : PySem.W.kitOne K (.ref (exA mg "Outside")) (.ref (exA mg "BadBits")) = some false
  s_Outside_BadGrid : PySem.W.subIn K (.ref (exA mg "Outside")) (.ref (exA mg "BadGrid")) = some false
  k_Outside_BadGrid : PySem.W.kitOne K (.ref (exA mg "Outside")) (.ref (exA mg "BadGrid")) = some false
  s_Outside_Outside : PySem.W.subIn K (.ref (exA mg "Outside")) (.ref (exA mg "Outside")) = some true
  k_Outside_Outside : PySem.W.kitOne K (.ref (exA mg "Outside")) (.ref (exA mg "Outside")) = some true
  t_ROOT : mg "ROOT" = some (.ref (exA mg "ROOT")) ∧ ∀ H, SqT K H (exA mg "ROOT") [.int 0, .int 65536, .int 16]
  o_LineModel : ClF K mg "LineModel"
  o_Ranger : ClF K mg "Ranger"
  o_Table : ClF K mg "Table"
  n_LineModel__around : NoAttr K (exA mg "LineModel") "_around"
  n_LineModel__begun : NoAttr K (exA mg "LineModel") "_begun"
  n_LineModel__last_pass : NoAttr K (exA mg "LineModel") "_last_pass"
  n_LineModel__plane : NoAttr K (exA mg "LineModel") "_plane"
  n_LineModel__rect : NoAttr K (exA mg "LineModel") "_rect"
  n_LineModel__signs : NoAttr K (exA mg "LineModel") "_signs"
  n_LineModel__sizes : NoAttr K (exA mg "LineModel") "_sizes"
  n_LineModel__spot : NoAttr K (exA mg "LineModel") "_spot"
  n_LineModel__tables : NoAttr K (exA mg "LineModel") "_tables"
  n_LineModel__told : NoAttr K (exA mg "LineModel") "_told"
  n_LineModel__turns : NoAttr K (exA mg "LineModel") "_turns"
  n_Ranger__node : NoAttr K (exA mg "Ranger") "_node"
  n_Table__counts : NoAttr K (exA mg "Table") "_counts"
theorem Zs.c_FAR {K : PySem.W.Frag} {mg : Str → Option Value} (Z : Zs K mg) : mg "FAR" = some (.int (2) (Classical.choose Z.e_FAR)) := Classical.choose_spec Z.e_FAR
theorem Zs.c_GAIN {K : PySem.W.Frag} {mg : Str → Option Value} (Z : Zs K mg) : mg "GAIN" = some (.int (2) (Classical.choose Z.e_GAIN)) := Classical.choose_spec Z.e_GAIN
theorem Zs.c_HALF_WIDTH {K : PySem.W.Frag} {mg : Str → Option Value} (Z : Zs K mg) : mg "HALF_WIDTH" = some (.int (32768) (Classical.choose Z.e_HALF_WIDTH)) := Classical.choose_spec Z.e_HALF_WIDTH
theorem Zs.c_LEAST_WIDTH {K : PySem.W.Frag} {mg : Str → Option Value} (Z : Zs K mg) : mg "LEAST_WIDTH" = some (.int (65536) (Classical.choose Z.e_LEAST_WIDTH)) := Classical.choose_spec Z.e_LEAST_WIDTH
theorem Zs.c_MOST_NEAR {K : PySem.W.Frag} {mg : Str → Option Value} (Z : Zs K mg) : mg "MOST_NEAR" = some (.int (2) (Classical.choose Z.e_MOST_NEAR)) := Classical.choose_spec Z.e_MOST_NEAR
theorem Zs.c_MOST_PLANES {K : PySem.W.Frag} {mg : Str → Option Value} (Z : Zs K mg) : mg "MOST_PLANES" = some (.int (20) (Classical.choose Z.e_MOST_PLANES)) := Classical.choose_spec Z.e_MOST_PLANES
theorem Zs.c_MOST_TOTAL {K : PySem.W.Frag} {mg : Str → Option Value} (Z : Zs K mg) : mg "MOST_TOTAL" = some (.int (64) (Classical.choose Z.e_MOST_TOTAL)) := Classical.choose_spec Z.e_MOST_TOTAL
theorem Zs.c_NEAR {K : PySem.W.Frag} {mg : Str → Option Value} (Z : Zs K mg) : mg "NEAR" = some (.int (0) (Classical.choose Z.e_NEAR)) := Classical.choose_spec Z.e_NEAR
theorem Zs.c_OLD {K : PySem.W.Frag} {mg : Str → Option Value} (Z : Zs K mg) : mg "OLD" = some (.int (4) (Classical.choose Z.e_OLD)) := Classical.choose_spec Z.e_OLD
theorem Zs.c_ROOT_SCALE {K : PySem.W.Frag} {mg : Str → Option Value} (Z : Zs K mg) : mg "ROOT_SCALE" = some (.int (16) (Classical.choose Z.e_ROOT_SCALE)) := Classical.choose_spec Z.e_ROOT_SCALE
theorem Zs.c_SHARPER {K : PySem.W.Frag} {mg : Str → Option Value} (Z : Zs K mg) : mg "SHARPER" = some (.int (1) (Classical.choose Z.e_SHARPER)) := Classical.choose_spec Z.e_SHARPER
theorem Zs.c_YOUNG {K : PySem.W.Frag} {mg : Str → Option Value} (Z : Zs K mg) : mg "YOUNG" = some (.int (3) (Classical.choose Z.e_YOUNG)) := Classical.choose_spec Z.e_YOUNG
theorem pad_ok {i : Int} (h : 0 ≤ i ∧ i ≤ 10000) : PadOk i = true := by
  unfold PadOk fitsSsize Builtin.Str.tooLong
  have e : sizeLine = 16777216 := by decide
  simp [e]
  omega
def bitsV (w n : Nat) : List V := (fixL w n).map V.int
def Bits (bs : List Int) : Prop := ∀ b ∈ bs, isBit b
def goodV (x : V) : Bool := match x with
  | .int b => decide (0 ≤ b) && decide (b ≤ 1)
  | _ => false
/-- the things that lie in a list of bits, or spoil it -/
inductive Thg (H : Hp) : V → Prop
  | int (i : Int) : Thg H (.int i)
  | non : Thg H .non
  | str (s : Str) : Thg H (.str s)
  | lst {a : Addr} {xs : List V} (h : H a = some (.lst xs)) : Thg H (.ref a)
section K11M
/-! ### the model of a line, plain -/
structure Mdl where
  x0 : Int
  x1 : Int
  y0 : Int
  y1 : Int
  pl : Int
  around : List (List Nat)
  tabs : List (List Int)
  signs : List Int
  sizes : List Int
  begun : List Int
  told : List Int
  plane : Int
  turns : List (Nat × Nat)
  spot : Nat
def nearB (around : List (List Nat)) (signs : List Int) (p : Nat) : Bool := (around.getD p []).any fun o => !decide (signs.getD o 0 = 0)
def kindAt (around : List (List Nat)) (signs : List Int) (p : Nat) : Nat := if signs.getD p 0 = 0 then (if nearB around signs p = true then 0 else 2) else 1
def turnsK (around : List (List Nat)) (signs : List Int) (k : Nat) : List (Nat × Nat) := ((List.range around.length).filter fun p => decide (kindAt around signs p = k)).map fun p => (k, p)
def turnsOf (around : List (List Nat)) (signs : List Int) : List (Nat × Nat) := turnsK around signs 0 ++ turnsK around signs 1 ++ turnsK around signs 2
def nearN (around : List (List Nat)) (signs : List Int) (p : Nat) : Nat := (around.getD p []).countP fun o => !decide (signs.getD o 0 = 0)
def tno (m : Mdl) (k p : Nat) : Nat := if k = 1 then (if m.begun.getD p 0 = m.plane + 1 then 3 else 4) else min 2 (nearN m.around m.signs p)
/-- who is asked next -/
def turnM (m : Mdl) : Nat × Nat := m.turns.getD m.spot (0, 0)
def tabM (m : Mdl) : Nat := tno m (turnM m).1 (turnM m).2
def manyM (m : Mdl) : Int := if (turnM m).1 = 1 then 2 else 3
def cellM (m : Mdl) : Int × Int := (m.x0 + ((turnM m).2 : Int) % (m.x1 - m.x0), m.y0 + ((turnM m).2 : Int) / (m.x1 - m.x0))
def countsM (m : Mdl) : List Int := m.tabs.getD (tabM m) []
def goOn (m : Mdl) : Mdl := if m.spot + 1 = m.turns.length then { m with plane := m.plane - 1, turns := turnsOf m.around m.signs, spot := 0 } else { m with spot := m.spot + 1 }
def learnM (m : Mdl) (j : Nat) : Mdl := { m with tabs := m.tabs.set (tabM m) (learnL (countsM m) j) }
def markM (m : Mdl) (k p : Nat) (j : Nat) : Mdl :=
  if k = 1 then { m with sizes := m.sizes.set p (2 * m.sizes.getD p 0 + j) }
  else if 0 < j then { m with signs := m.signs.set p (if j = 1 then 1 else -1), sizes := m.sizes.set p 1, begun := m.begun.set p m.plane }
  else m
def toldM (m : Mdl) (p : Nat) : Mdl := { m with told := m.told.set p m.plane }
def stepM (m : Mdl) (j : Nat) : Mdl := goOn (toldM (markM (learnM m j) (turnM m).1 (turnM m).2 j) (turnM m).2)
def initM (x0 x1 y0 y1 pl : Int) (around : List (List Nat)) : Mdl :=
  { x0 := x0, x1 := x1, y0 := y0, y1 := y1, pl := pl, around := around, tabs := [[1, 1, 1], [1, 1, 1], [1, 1, 1], [1, 1], [1, 1]],
    signs := List.replicate around.length 0, sizes := List.replicate around.length 0, begun := List.replicate around.length pl, told := List.replicate around.length pl,
    plane := if around.length = 0 then -1 else pl - 1, turns := turnsOf around (List.replicate around.length 0), spot := 0 }
/-- places beside a place -/
def arnd (w p : Nat) : List (Int × Int) := [(((p % w : Nat) : Int) - 1, ((p / w : Nat) : Int)), (((p % w : Nat) : Int) + 1, ((p / w : Nat) : Int)), (((p % w : Nat) : Int), ((p / w : Nat) : Int) - 1), (((p % w : Nat) : Int), ((p / w : Nat) : Int) + 1)]
def inB (w h : Nat) (ab : Int × Int) : Bool := decide (0 ≤ ab.1) && decide (ab.1 < (w : Int)) && (decide (0 ≤ ab.2) && decide (ab.2 < (h : Int)))
def besideL (w h p : Nat) : List Nat := ((arnd w p).filter (inB w h)).map fun ab => (ab.2 * (w : Int) + ab.1).toNat
def besideAll (w h : Nat) : List (List Nat) := (List.range (w * h)).map (besideL w h)
structure TabOk (i : Nat) (cs : List Int) : Prop where
  n : cs.length = if i < 3 then 3 else 2
  c : CsOk cs
structure MOk (m : Mdl) : Prop where
  big : m.around.length ≤ 1000
  sg : m.signs.length = m.around.length
  sz : m.sizes.length = m.around.length
  bg : m.begun.length = m.around.length
  td : m.told.length = m.around.length
  ar : ∀ row ∈ m.around, row.length ≤ 4 ∧ ∀ o ∈ row, o < m.around.length
  tb : m.tabs.length = 5
  tk : ∀ i cs, m.tabs[i]? = some cs → TabOk i cs
  tn : m.turns.length = m.around.length
  tu : ∀ kp ∈ m.turns, kp.1 < 3 ∧ kp.2 < m.around.length
  sp : 0 ≤ m.plane → m.spot < m.turns.length
  wd : 0 ≤ m.plane → m.x0 < m.x1 ∧ m.x1 - m.x0 < 1000000
theorem turnsK_mem {around : List (List Nat)} {signs : List Int} {k : Nat} {kp : Nat × Nat} (h : kp ∈ turnsK around signs k) : kp.1 = k ∧ kp.2 < around.length := by
  obtain ⟨p, hp, rfl⟩ := List.mem_map.mp h
  exact ⟨rfl, List.mem_range.mp (List.mem_filter.mp hp).1⟩
theorem kindAt_lt (around : List (List Nat)) (signs : List Int) (p : Nat) : kindAt around signs p < 3 := by
  unfold kindAt
  split
  · split <;> decide
  · decide
theorem turnsOf_mem {around : List (List Nat)} {signs : List Int} {kp : Nat × Nat} (h : kp ∈ turnsOf around signs) : kp.1 < 3 ∧ kp.2 < around.length := by
  unfold turnsOf at h
  rcases List.mem_append.mp h with h | h
  · rcases List.mem_append.mp h with h | h
    · obtain ⟨a, b⟩ := turnsK_mem h; exact ⟨by omega, b⟩
    · obtain ⟨a, b⟩ := turnsK_mem h; exact ⟨by omega, b⟩
  · obtain ⟨a, b⟩ := turnsK_mem h; exact ⟨by omega, b⟩
theorem kinds_len (f : Nat → Nat) (hf : ∀ p, f p < 3) : ∀ l : List Nat, (l.filter fun p => decide (f p = 0)).length + (l.filter fun p => decide (f p = 1)).length + (l.filter fun p => decide (f p = 2)).length = l.length
  | [] => rfl
  | p :: l => by
    have ih := kinds_len f hf l
    have h := hf p
    have : f p = 0 ∨ f p = 1 ∨ f p = 2 := by omega
    rcases this with e | e | e <;> simp [List.filter_cons, e] <;> omega
theorem turnsOf_len (around : List (List Nat)) (signs : List Int) : (turnsOf around signs).length = around.length := by
  have h := kinds_len (kindAt around signs) (kindAt_lt around signs) (List.range around.length)
  unfold turnsOf turnsK
  simp only [List.length_append, List.length_map]
  rw [List.length_range] at h
  exact h
theorem MOk.turn {m : Mdl} (h : MOk m) (hp : 0 ≤ m.plane) : (turnM m).1 < 3 ∧ (turnM m).2 < m.around.length ∧ m.turns[m.spot]? = some (turnM m) := by
  have hs := h.sp hp
  have e : m.turns[m.spot]? = some (turnM m) := by
    unfold turnM
    rw [List.getD_eq_getElem?_getD, List.getElem?_eq_getElem hs]; rfl
  have := h.tu _ (List.mem_of_getElem? e)
  exact ⟨this.1, this.2, e⟩
theorem MOk.tab {m : Mdl} (h : MOk m) (hp : 0 ≤ m.plane) : tabM m < 5 ∧ m.tabs[tabM m]? = some (countsM m) ∧ ((countsM m).length : Int) = manyM m ∧ CsOk (countsM m) := by
  have ht := h.turn hp
  have h5 : tabM m < 5 := by
    unfold tabM tno
    split
    · split <;> decide
    · omega
  have hl : tabM m < m.tabs.length := by rw [h.tb]; exact h5
  have e : m.tabs[tabM m]? = some (countsM m) := by
    unfold countsM
    rw [List.getD_eq_getElem?_getD, List.getElem?_eq_getElem hl]; rfl
  have k := h.tk _ _ e
  refine ⟨h5, e, ?_, k.c⟩
  rw [k.n]
  unfold manyM tabM tno
  by_cases hk : (turnM m).1 = 1
  · rw [if_pos hk, if_pos hk]
    split <;> simp
  · rw [if_neg hk, if_neg hk, if_pos (by omega)]; rfl
/-! ### its cells -/
structure LA where
  a : Addr
  dx : Addr
  r : Addr
  ar : Addr
  tl : Addr
  sg : Addr
  sz : Addr
  bg : Addr
  td : Addr
  tn : Addr
  rows : List Addr
  tus : List Addr
  ts : List (Addr × Addr × Addr)
def LA.cells (A : LA) : List Addr := A.a :: A.sg :: A.sz :: A.bg :: A.td :: (A.ts.map (·.1) ++ A.ts.map (·.2.2))
abbrev TabO (mg : Str → Option Value) (H : Hp) (p : Addr) (dx l : Addr) (cs : List Int) : Prop := H p = some (.ins (exA mg "Table") dx [("_counts", .ref l)]) ∧ H l = some (.lst (cs.map V.int))
def lmF (A : LA) (m : Mdl) : List (Str × V) := [("_rect", .ref A.r), ("_last_pass", .int (3 * m.pl)), ("_around", .ref A.ar), ("_tables", .ref A.tl), ("_signs", .ref A.sg), ("_sizes", .ref A.sz), ("_begun", .ref A.bg), ("_told", .ref A.td), ("_plane", .int m.plane), ("_turns", .ref A.tn), ("_spot", .int m.spot)]
def RowsAt (F : Hp) (rows : List Addr) (around : List (List Nat)) : Prop := rows.length = around.length ∧ ∀ (i : Nat) (row : List Nat), around[i]? = some row → ∃ q, rows[i]? = some q ∧ F q = some (.lst (row.map fun (n : Nat) => V.int (n : Int)))
def TusAt (F : Hp) (tus : List Addr) (turns : List (Nat × Nat)) : Prop := tus.length = turns.length ∧ ∀ (i : Nat) (kp : Nat × Nat), turns[i]? = some kp → ∃ q, tus[i]? = some q ∧ F q = some (.tup [.int (kp.1 : Int), .int (kp.2 : Int)])
def TabsAt (mg : Str → Option Value) (H : Hp) (ts : List (Addr × Addr × Addr)) (tabs : List (List Int)) : Prop := ts.length = tabs.length ∧ ∀ (i : Nat) (cs : List Int), tabs[i]? = some cs → ∃ t, ts[i]? = some t ∧ TabO mg H t.1 t.2.1 t.2.2 cs
structure LMx (mg : Str → Option Value) (F H : Hp) (A : LA) (m : Mdl) : Prop where
  fh : Same F H
  o : H A.a = some (.ins (exA mg "LineModel") A.dx (lmF A m))
  r : F A.r = some (.tup [.int m.x0, .int m.x1, .int m.y0, .int m.y1])
  ar : F A.ar = some (.lst (A.rows.map V.ref))
  rows : RowsAt F A.rows m.around
  tl : F A.tl = some (.lst (A.ts.map fun t => V.ref t.1))
  ts : TabsAt mg H A.ts m.tabs
  sg : H A.sg = some (.lst (m.signs.map V.int))
  sz : H A.sz = some (.lst (m.sizes.map V.int))
  bg : H A.bg = some (.lst (m.begun.map V.int))
  td : H A.td = some (.lst (m.told.map V.int))
  tn : F A.tn = some (.lst (A.tus.map V.ref))
  tu : TusAt F A.tus m.turns
  nd : A.cells.Nodup
  fr : ∀ b ∈ A.cells, F b = none
theorem RowsAt.mono {F F' : Hp} {rows : List Addr} {around : List (List Nat)} (h : RowsAt F rows around) (s : Same F F') : RowsAt F' rows around := ⟨h.1, fun i row e => by
  obtain ⟨q, a, b⟩ := h.2 i row e
  exact ⟨q, a, s _ _ b⟩⟩
theorem TusAt.mono {F F' : Hp} {tus : List Addr} {turns : List (Nat × Nat)} (h : TusAt F tus turns) (s : Same F F') : TusAt F' tus turns := ⟨h.1, fun i row e => by
  obtain ⟨q, a, b⟩ := h.2 i row e
  exact ⟨q, a, s _ _ b⟩⟩
theorem TabsAt.at {mg : Str → Option Value} {H : Hp} {ts : List (Addr × Addr × Addr)} {tabs : List (List Int)} (h : TabsAt mg H ts tabs) {i : Nat} {t : Addr × Addr × Addr} (e : ts[i]? = some t) : ∃ cs, tabs[i]? = some cs ∧ TabO mg H t.1 t.2.1 t.2.2 cs := by
  have hi : i < tabs.length := by rw [← h.1]; exact (List.getElem?_eq_some_iff.mp e).1
  obtain ⟨t', e', o⟩ := h.2 i _ (List.getElem?_eq_getElem hi)
  rw [e] at e'
  cases e'
  exact ⟨_, List.getElem?_eq_getElem hi, o⟩
/-- every cell of it stands -/
theorem LMx.dom {mg : Str → Option Value} {F H : Hp} {A : LA} {m : Mdl} (z : LMx mg F H A m) : ∀ b ∈ A.cells, ∃ o, H b = some o := fun b hb => by
  unfold LA.cells at hb
  simp only [List.mem_cons, List.mem_append] at hb
  rcases hb with rfl | rfl | rfl | rfl | rfl | hb | hb
  · exact ⟨_, z.o⟩
  · exact ⟨_, z.sg⟩
  · exact ⟨_, z.sz⟩
  · exact ⟨_, z.bg⟩
  · exact ⟨_, z.td⟩
  · obtain ⟨t, ht, rfl⟩ := List.mem_map.mp hb
    obtain ⟨i, hi⟩ := List.getElem?_of_mem ht
    obtain ⟨cs, _, o⟩ := z.ts.at hi
    exact ⟨_, o.1⟩
  · obtain ⟨t, ht, rfl⟩ := List.mem_map.mp hb
    obtain ⟨i, hi⟩ := List.getElem?_of_mem ht
    obtain ⟨cs, _, o⟩ := z.ts.at hi
    exact ⟨_, o.2⟩
/-- it stands as long as its cells do -/
theorem LMx.keep {mg : Str → Option Value} {F H F' H' : Hp} {A : LA} {m : Mdl} (z : LMx mg F H A m) (ff : Same F F') (fh : Same F' H') (fr : ∀ b ∈ A.cells, F' b = none) (k : ∀ b ∈ A.cells, ∀ o, H b = some o → H' b = some o) : LMx mg F' H' A m := by
  have c : ∀ b, b ∈ A.cells ↔ b = A.a ∨ b = A.sg ∨ b = A.sz ∨ b = A.bg ∨ b = A.td ∨ b ∈ A.ts.map (·.1) ∨ b ∈ A.ts.map (·.2.2) := fun b => by
    unfold LA.cells; simp only [List.mem_cons, List.mem_append]
  refine ⟨fh, k _ ((c _).mpr (.inl rfl)) _ z.o, ff _ _ z.r, ff _ _ z.ar, z.rows.mono ff, ff _ _ z.tl, ⟨z.ts.1, fun i cs e => ?_⟩, k _ ((c _).mpr (.inr (.inl rfl))) _ z.sg, k _ ((c _).mpr (.inr (.inr (.inl rfl)))) _ z.sz, k _ ((c _).mpr (.inr (.inr (.inr (.inl rfl))))) _ z.bg, k _ ((c _).mpr (.inr (.inr (.inr (.inr (.inl rfl)))))) _ z.td, ff _ _ z.tn, z.tu.mono ff, z.nd, fr⟩
  obtain ⟨t, et, o⟩ := z.ts.2 i cs e
  have mt := List.mem_of_getElem? et
  exact ⟨t, et, k _ ((c _).mpr (.inr (.inr (.inr (.inr (.inr (.inl (List.mem_map.mpr ⟨t, mt, rfl⟩)))))))) _ o.1, k _ ((c _).mpr (.inr (.inr (.inr (.inr (.inr (.inr (List.mem_map.mpr ⟨t, mt, rfl⟩)))))))) _ o.2⟩
theorem LMx.step {mg : Str → Option Value} {S : Addr → Prop} {F H F' H' : Hp} {A : LA} {m : Mdl} (z : LMx mg F H A m) (st : Stp S F H F' H') (d : ∀ b ∈ A.cells, ¬ S b) : LMx mg F' H' A m :=
  z.keep st.ff st.fh (fun b hb => by
    obtain ⟨o, e⟩ := z.dom b hb
    rw [st.fo b o e]; exact z.fr b hb) fun b hb o e => st.keep b o (d b hb) e
theorem LMx.of {mg : Str → Option Value} {F H H' : Hp} {A : LA} {m : Mdl} (z : LMx mg F H A m) (s : Same H H') : LMx mg F H' A m := z.keep (Same.refl F) (z.fh.trans s) z.fr fun b _ o e => s _ _ e
end K11M
section K11N
theorem Stp.transN {S S' : Addr → Prop} {F H F1 H1 F2 H2 : Hp} (a : Stp S F H F1 H1) (b : Stp S' F1 H1 F2 H2) (n : ∀ c, S' c → S c ∨ H c = none) : Stp S F H F2 H2 := by
  refine ⟨a.ff.trans b.ff, b.fh, fun c o e => ?_, fun c o nS e => ?_, fun c o e => ?_⟩
  · obtain ⟨o', e'⟩ := a.dom c o e
    rw [b.fo c o' e', a.fo c o e]
  · refine b.keep c o (fun z => ?_) (a.keep c o nS e)
    rcases n c z with h | h
    · exact nS h
    · rw [e] at h; cases h
  · obtain ⟨o', e'⟩ := a.dom c o e
    exact b.dom c o' e'
theorem Src.step {S : Addr → Prop} {F H F' H' : Hp} {p : Addr} (h : Src F H p) (st : Stp S F H F' H') (n : ¬ S p) : Src F' H' p := by
  obtain ⟨a, b, x, y, e, z⟩ := h
  exact ⟨st.fh, by rw [st.fo _ _ e]; exact b, x, y, st.keep _ _ n e, z⟩
variable {mg : Str → Option Value} {F H F' H' : Hp} {A : LA} {m : Mdl}
structure LANe (A : LA) : Prop where
  n : (A.a ≠ A.sg ∧ A.a ≠ A.sz ∧ A.a ≠ A.bg ∧ A.a ≠ A.td) ∧ (A.sg ≠ A.sz ∧ A.sg ≠ A.bg ∧ A.sg ≠ A.td) ∧ (A.sz ≠ A.bg ∧ A.sz ≠ A.td) ∧ A.bg ≠ A.td
  t : ∀ t ∈ A.ts, (t.1 ≠ A.a ∧ t.1 ≠ A.sg ∧ t.1 ≠ A.sz ∧ t.1 ≠ A.bg ∧ t.1 ≠ A.td) ∧ (t.2.2 ≠ A.a ∧ t.2.2 ≠ A.sg ∧ t.2.2 ≠ A.sz ∧ t.2.2 ≠ A.bg ∧ t.2.2 ≠ A.td)
theorem LMx.ne (z : LMx mg F H A m) : LANe A := by
  have h := z.nd
  unfold LA.cells at h
  simp only [List.nodup_cons, List.mem_cons, List.mem_append, not_or] at h
  obtain ⟨⟨a1, a2, a3, a4, a5, a6⟩, ⟨b1, b2, b3, b4, b5⟩, ⟨c1, c2, c3, c4⟩, ⟨d1, d2, d3⟩, ⟨e1, e2⟩, _⟩ := h
  have mt : ∀ t ∈ A.ts, t.1 ∈ A.ts.map (·.1) ∧ t.2.2 ∈ A.ts.map (·.2.2) := fun t ht => ⟨List.mem_map.mpr ⟨t, ht, rfl⟩, List.mem_map.mpr ⟨t, ht, rfl⟩⟩
  refine ⟨⟨⟨a1, a2, a3, a4⟩, ⟨b1, b2, b3⟩, ⟨c1, c2⟩, d1⟩, fun t ht => ⟨⟨fun e => ?_, fun e => ?_, fun e => ?_, fun e => ?_, fun e => ?_⟩, ⟨fun e => ?_, fun e => ?_, fun e => ?_, fun e => ?_, fun e => ?_⟩⟩⟩
  · exact a5 (e ▸ (mt t ht).1)
  · exact b4 (e ▸ (mt t ht).1)
  · exact c3 (e ▸ (mt t ht).1)
  · exact d2 (e ▸ (mt t ht).1)
  · exact e1 (e ▸ (mt t ht).1)
  · exact a6 (e ▸ (mt t ht).2)
  · exact b5 (e ▸ (mt t ht).2)
  · exact c4 (e ▸ (mt t ht).2)
  · exact d3 (e ▸ (mt t ht).2)
  · exact e2 (e ▸ (mt t ht).2)
theorem LMx.ma (A : LA) : A.a ∈ A.cells := by unfold LA.cells; simp
theorem LMx.msg (A : LA) : A.sg ∈ A.cells := by unfold LA.cells; simp
theorem LMx.msz (A : LA) : A.sz ∈ A.cells := by unfold LA.cells; simp
theorem LMx.mbg (A : LA) : A.bg ∈ A.cells := by unfold LA.cells; simp
theorem LMx.mtd (A : LA) : A.td ∈ A.cells := by unfold LA.cells; simp
theorem LMx.mt {A : LA} {t : Addr × Addr × Addr} (h : t ∈ A.ts) : t.1 ∈ A.cells ∧ t.2.2 ∈ A.cells := by
  unfold LA.cells
  simp only [List.mem_cons, List.mem_append]
  exact ⟨.inr (.inr (.inr (.inr (.inr (.inl (List.mem_map.mpr ⟨t, h, rfl⟩)))))), .inr (.inr (.inr (.inr (.inr (.inr (List.mem_map.mpr ⟨t, h, rfl⟩))))))⟩
/-- one of its cells is written -/
theorem LMx.fhw (z : LMx mg F H A m) {x : Addr} {o : HO} (hx : x ∈ A.cells) : Same F (upd H x o) := fun b o' e => by
  rw [upd_ne (fun h => by rw [h, z.fr x hx] at e; cases e)]
  exact z.fh _ _ e
theorem LMx.tsw (z : LMx mg F H A m) {x : Addr} {o : HO} (hx : ∀ t ∈ A.ts, t.1 ≠ x ∧ t.2.2 ≠ x) : TabsAt mg (upd H x o) A.ts m.tabs := ⟨z.ts.1, fun i cs e => by
  obtain ⟨t, et, o1, o2⟩ := z.ts.2 i cs e
  have := hx t (List.mem_of_getElem? et)
  exact ⟨t, et, by rw [upd_ne this.1]; exact o1, by rw [upd_ne this.2]; exact o2⟩⟩
theorem LMx.setSigns (z : LMx mg F H A m) (l : List Int) : LMx mg F (upd H A.sg (.lst (l.map V.int))) A { m with signs := l } := by
  obtain ⟨⟨⟨a1, a2, a3, a4⟩, ⟨b1, b2, b3⟩, ⟨c1, c2⟩, d1⟩, t⟩ := z.ne
  exact ⟨z.fhw (LMx.msg A), by rw [upd_ne a1]; exact z.o, z.r, z.ar, z.rows, z.tl, z.tsw fun u hu => ⟨(t u hu).1.2.1, (t u hu).2.2.1⟩, upd_same, by rw [upd_ne b1.symm]; exact z.sz, by rw [upd_ne b2.symm]; exact z.bg, by rw [upd_ne b3.symm]; exact z.td, z.tn, z.tu, z.nd, z.fr⟩
theorem LMx.setSizes (z : LMx mg F H A m) (l : List Int) : LMx mg F (upd H A.sz (.lst (l.map V.int))) A { m with sizes := l } := by
  obtain ⟨⟨⟨a1, a2, a3, a4⟩, ⟨b1, b2, b3⟩, ⟨c1, c2⟩, d1⟩, t⟩ := z.ne
  exact ⟨z.fhw (LMx.msz A), by rw [upd_ne a2]; exact z.o, z.r, z.ar, z.rows, z.tl, z.tsw fun u hu => ⟨(t u hu).1.2.2.1, (t u hu).2.2.2.1⟩, by rw [upd_ne b1]; exact z.sg, upd_same, by rw [upd_ne c1.symm]; exact z.bg, by rw [upd_ne c2.symm]; exact z.td, z.tn, z.tu, z.nd, z.fr⟩
theorem LMx.setBegun (z : LMx mg F H A m) (l : List Int) : LMx mg F (upd H A.bg (.lst (l.map V.int))) A { m with begun := l } := by
  obtain ⟨⟨⟨a1, a2, a3, a4⟩, ⟨b1, b2, b3⟩, ⟨c1, c2⟩, d1⟩, t⟩ := z.ne
  exact ⟨z.fhw (LMx.mbg A), by rw [upd_ne a3]; exact z.o, z.r, z.ar, z.rows, z.tl, z.tsw fun u hu => ⟨(t u hu).1.2.2.2.1, (t u hu).2.2.2.2.1⟩, by rw [upd_ne b2]; exact z.sg, by rw [upd_ne c1]; exact z.sz, upd_same, by rw [upd_ne d1.symm]; exact z.td, z.tn, z.tu, z.nd, z.fr⟩
theorem LMx.setTold (z : LMx mg F H A m) (l : List Int) : LMx mg F (upd H A.td (.lst (l.map V.int))) A { m with told := l } := by
  obtain ⟨⟨⟨a1, a2, a3, a4⟩, ⟨b1, b2, b3⟩, ⟨c1, c2⟩, d1⟩, t⟩ := z.ne
  exact ⟨z.fhw (LMx.mtd A), by rw [upd_ne a4]; exact z.o, z.r, z.ar, z.rows, z.tl, z.tsw fun u hu => ⟨(t u hu).1.2.2.2.2, (t u hu).2.2.2.2.2⟩, by rw [upd_ne b3]; exact z.sg, by rw [upd_ne c2]; exact z.sz, by rw [upd_ne d1]; exact z.bg, upd_same, z.tn, z.tu, z.nd, z.fr⟩
/-- its own fields are written -/
theorem LMx.setObj (z : LMx mg F H A m) (pl sp : Int) (m' : Mdl) (e : m' = { m with plane := pl, spot := m'.spot }) (es : sp = m'.spot) : LMx mg F (upd H A.a (.ins (exA mg "LineModel") A.dx (lmF A m'))) A m' := by
  obtain ⟨⟨⟨a1, a2, a3, a4⟩, ⟨b1, b2, b3⟩, ⟨c1, c2⟩, d1⟩, t⟩ := z.ne
  have hts := z.tsw (x := A.a) (o := .ins (exA mg "LineModel") A.dx (lmF A m')) fun u hu => ⟨(t u hu).1.1, (t u hu).2.1⟩
  rw [e] at hts ⊢
  exact ⟨z.fhw (LMx.ma A), upd_same, z.r, z.ar, z.rows, z.tl, hts, by rw [upd_ne a1.symm]; exact z.sg, by rw [upd_ne a2.symm]; exact z.sz, by rw [upd_ne a3.symm]; exact z.bg, by rw [upd_ne a4.symm]; exact z.td, z.tn, z.tu, z.nd, z.fr⟩
theorem LMx.setTurns (z : LMx mg F H A m) {tn : Addr} {tus : List Addr} {ts : List (Nat × Nat)} (h1 : F tn = some (.lst (tus.map V.ref))) (h2 : TusAt F tus ts) : LMx mg F (upd H A.a (.ins (exA mg "LineModel") A.dx (lmF { A with tn := tn, tus := tus } { m with turns := ts }))) { A with tn := tn, tus := tus } { m with turns := ts } := by
  obtain ⟨⟨⟨a1, a2, a3, a4⟩, ⟨b1, b2, b3⟩, ⟨c1, c2⟩, d1⟩, t⟩ := z.ne
  have hts := z.tsw (x := A.a) (o := .ins (exA mg "LineModel") A.dx (lmF { A with tn := tn, tus := tus } { m with turns := ts })) fun u hu => ⟨(t u hu).1.1, (t u hu).2.1⟩
  exact ⟨z.fhw (LMx.ma A), upd_same, z.r, z.ar, z.rows, z.tl, hts, by rw [upd_ne a1.symm]; exact z.sg, by rw [upd_ne a2.symm]; exact z.sz, by rw [upd_ne a3.symm]; exact z.bg, by rw [upd_ne a4.symm]; exact z.td, h1, h2, z.nd, z.fr⟩
/-- as the readers of signs want it -/
def NearO (mg : Str → Option Value) (H : Hp) (a : Addr) (around : List (List Nat)) (signs : List Int) : Prop := ∃ (dx ar sg : Addr) (fs : List (Str × V)) (rows : List Addr), H a = some (.ins (exA mg "LineModel") dx fs) ∧ fs.lookup ("_signs" : Str) = some (.ref sg) ∧ fs.lookup ("_around" : Str) = some (.ref ar) ∧ fs.lookup ("_is_near" : Str) = none ∧ fs.lookup ("_turns_of_plane" : Str) = none ∧
  H sg = some (.lst (signs.map V.int)) ∧ H ar = some (.lst (rows.map V.ref)) ∧ RowsAt H rows around
structure NearP (around : List (List Nat)) (signs : List Int) : Prop where
  big : around.length ≤ 1000
  sg : signs.length = around.length
  ar : ∀ row ∈ around, row.length ≤ 4 ∧ ∀ o ∈ row, o < around.length
theorem NearO.mono {a : Addr} {around : List (List Nat)} {signs : List Int} (h : NearO mg H a around signs) (s : Same H H') : NearO mg H' a around signs := by
  obtain ⟨dx, ar, sg, fs, rows, h1, h2, h3, h4, h5, h6, h7, h8⟩ := h
  exact ⟨dx, ar, sg, fs, rows, s _ _ h1, h2, h3, h4, h5, s _ _ h6, s _ _ h7, h8.mono s⟩
theorem LMx.near (z : LMx mg F H A m) : NearO mg H A.a m.around m.signs := ⟨A.dx, A.ar, A.sg, lmF A m, A.rows, z.o, rfl, rfl, rfl, rfl, z.sg, z.fh _ _ z.ar, z.rows.mono z.fh⟩
theorem MOk.near (h : MOk m) : NearP m.around m.signs := ⟨h.big, h.sg, h.ar⟩
end K11N
section K11O
/-! ### nodes, letters told -/
structure Nd where
  l : Int
  w : Int
  s : Nat
def rootN : Nd := ⟨0, 65536, 16⟩
def kOf (w : Int) : Nat := ((List.range 7).find? fun i => decide (65536 ≤ w * 2 ^ i)).getD 0
def childN (n : Nd) (cs : List Int) (j : Nat) : Nd :=
  let b := bord n.w cs (j + 1) - bord n.w cs j
  ⟨(n.l + bord n.w cs j) * 2 ^ kOf b, b * 2 ^ kOf b, n.s + kOf b⟩
/-- the whole interval of the bits lies in the node's -/
def HoldsP (n : Nd) (v : Int) (many : Nat) : Prop := n.l * 2 ^ (many - n.s) ≤ v * 2 ^ (n.s - many) ∧ (v + 1) * 2 ^ (n.s - many) ≤ (n.l + n.w) * 2 ^ (many - n.s)
instance (n : Nd) (v : Int) (many : Nat) : Decidable (HoldsP n v many) := by unfold HoldsP; exact inferInstance
structure NdOk (n : Nd) : Prop where
  w0 : 65536 ≤ n.w
  w1 : n.w < 131072
  l0 : 0 ≤ n.l
  s0 : 16 ≤ n.s
  top : n.l + n.w ≤ 2 ^ n.s
/-- the first letter whose part holds the bits -/
def FirstJ (v : Int) (many : Nat) (n : Nd) (cs : List Int) (j : Nat) : Prop := j < cs.length ∧ HoldsP (childN n cs j) v many ∧ ∀ i < j, ¬ HoldsP (childN n cs i) v many
def NoneJ (v : Int) (many : Nat) (n : Nd) (cs : List Int) : Prop := ∀ i < cs.length, ¬ HoldsP (childN n cs i) v many
/-- letters taken one by one, each by a choice -/
inductive Path (C : Mdl → Nd → Nat → Prop) (m0 : Mdl) (n0 : Nd) : List Nat → Mdl → Nd → Prop
  | nil : Path C m0 n0 [] m0 n0
  | snoc {js : List Nat} {m : Mdl} {n : Nd} {j : Nat} : Path C m0 n0 js m n → 0 ≤ m.plane → j < (countsM m).length → C m n j → Path C m0 n0 (js ++ [j]) (stepM m j) (childN n (countsM m) j)
def AnyJ : Mdl → Nd → Nat → Prop := fun _ _ _ => True
def TellJ (v : Int) (many : Nat) : Mdl → Nd → Nat → Prop := fun m n j => FirstJ v many n (countsM m) j
/-- what told_letters tells -/
def Told (v : Int) (many : Nat) (m0 : Mdl) (js : List Nat) (m : Mdl) : Prop := ∃ n, Path (TellJ v many) m0 rootN js m n ∧ (m.plane < 0 ∨ (0 ≤ m.plane ∧ NoneJ v many n (countsM m)))
def leftM (m : Mdl) : Nat := if m.plane < 0 then 0 else m.plane.toNat * m.around.length + (m.around.length - m.spot)
end K11O
section K11Q
theorem kOf_eq {w : Int} {k : Nat} (h : IsK w k) (hw : 1024 ≤ w) : kOf w = k := by
  have hk := isK_le h hw
  unfold kOf
  have e : (List.range 7).find? (fun i => decide (65536 ≤ w * 2 ^ i)) = some k := by
    rw [List.find?_eq_some_iff_getElem]
    refine ⟨decide_eq_true h.1, k, by rw [List.length_range]; omega, by rw [List.getElem_range], fun j hj => ?_⟩
    rw [List.getElem_range]
    have := h.2 j hj
    simp; omega
  rw [e]; rfl
theorem isK_ex {w : Int} (hw : 1024 ≤ w) : IsK w (kOf w) := by
  have ex : ∃ k, IsK w k := by
    have h6 : 65536 ≤ w * 2 ^ 6 := by omega
    have step : ∀ n : Nat, 65536 ≤ w * 2 ^ n → ∃ k, IsK w k := by
      intro n
      induction n with
      | zero => exact fun h => ⟨0, h, fun i hi => absurd hi (Nat.not_lt_zero i)⟩
      | succ n ih =>
        intro h
        by_cases h2 : 65536 ≤ w * 2 ^ n
        · exact ih h2
        · refine ⟨n + 1, h, fun i hi => ?_⟩
          have hi' : i ≤ n := by omega
          have h3 : w * 2 ^ i ≤ w * 2 ^ n := Int.mul_le_mul_of_nonneg_left (by
            have : (2 : Int) ^ n = 2 ^ i * 2 ^ (n - i) := by rw [← Int.pow_add]; congr 1; omega
            rw [this]
            have p1 : (0 : Int) < 2 ^ i := Int.pow_pos (by decide)
            have p2 : (0 : Int) < 2 ^ (n - i) := Int.pow_pos (by decide)
            have : (2 : Int) ^ i * 1 ≤ 2 ^ i * 2 ^ (n - i) := Int.mul_le_mul_of_nonneg_left (by omega) (by omega)
            omega) (by omega)
          omega
    exact step 6 h6
  obtain ⟨k, hk⟩ := ex
  rw [kOf_eq hk hw]; exact hk
theorem childN_k {n : Nd} {cs : List Int} {j k : Nat} (h : IsK (bord n.w cs (j + 1) - bord n.w cs j) k) (hw : 1024 ≤ bord n.w cs (j + 1) - bord n.w cs j) :
    some (HO.tup [.int ((n.l + bord n.w cs j) * 2 ^ k), .int ((bord n.w cs (j + 1) - bord n.w cs j) * 2 ^ k), .int ((n.s + k : Nat) : Int)]) = some (HO.tup [.int (childN n cs j).l, .int (childN n cs j).w, .int ((childN n cs j).s : Nat)]) := by
  unfold childN
  dsimp only
  rw [kOf_eq h hw]
end K11Q
section K11R
theorem childN_ok {n : Nd} {cs : List Int} {j : Nat} (nd : NdOk n) (h : CsOk cs) (hj : j < cs.length) : NdOk (childN n cs j) := by
  have hw := part_wide h nd.w0 hj
  have hk := isK_ex hw
  have b0 := bord_le h (Int.le_trans (by decide) nd.w0) j
  have b1 := bord_le h (Int.le_trans (by decide) nd.w0) (j + 1)
  have hlt : bord n.w cs (j + 1) - bord n.w cs j < 131072 := by have := nd.w1; omega
  have p : (0 : Int) < 2 ^ kOf (bord n.w cs (j + 1) - bord n.w cs j) := Int.pow_pos (by decide)
  refine ⟨hk.1, isK_lt hk hlt, Int.mul_nonneg (by have := nd.l0; omega) (by omega), by show 16 ≤ n.s + _; have := nd.s0; omega, ?_⟩
  unfold childN
  dsimp only
  rw [← Int.add_mul, Int.pow_add]
  refine Int.mul_le_mul_of_nonneg_right ?_ (by omega)
  have := nd.top
  omega
end K11R
section K11S
theorem sg_at {l : List Int} {o : Nat} (h : o < l.length) : atI (l.map V.int) (o : Int) = some (.int (l.getD o 0)) := by
  refine atI_nat ?_
  rw [List.getElem?_map, List.getElem?_eq_getElem h, List.getD_eq_getElem?_getD, List.getElem?_eq_getElem h]; rfl
theorem row_get {α : Type} {l : List α} {p : Nat} (h : p < l.length) (d : α) : l[p]? = some (l.getD p d) := by
  rw [List.getD_eq_getElem?_getD, List.getElem?_eq_getElem h]; rfl
theorem any_map {l : List Nat} {f : Nat → Bool} : (l.map f).any id = l.any f := by
  induction l with
  | nil => rfl
  | cons x l ih => simp [List.any_cons]
theorem sum_count (f : Nat → Bool) : ∀ l : List Nat, (l.map fun o => if f o = true then (1 : Int) else 0).sum = ((l.countP f : Nat) : Int)
  | [] => rfl
  | x :: l => by
    rw [List.map_cons, List.sum_cons, sum_count f l, List.countP_cons]
    split <;> omega
end K11S
section K11T
theorem nd_ne {l : List Addr} (h : l.Nodup) {i j : Nat} {x y : Addr} (hi : l[i]? = some x) (hj : l[j]? = some y) (ne : i ≠ j) : x ≠ y := by
  obtain ⟨li, rfl⟩ := List.getElem?_eq_some_iff.mp hi
  obtain ⟨lj, rfl⟩ := List.getElem?_eq_some_iff.mp hj
  have p := List.pairwise_iff_getElem.mp h
  rcases Nat.lt_or_gt_of_ne ne with c | c
  · exact p i j li lj c
  · exact (p j i lj li c).symm
theorem nodup_set : ∀ {l : List Addr} {i : Nat} {c : Addr}, l.Nodup → c ∉ l → (l.set i c).Nodup
  | [], _, _, h, _ => h
  | x :: l, 0, c, h, n => by
    rw [List.set_cons_zero]
    rw [List.nodup_cons] at h ⊢
    exact ⟨fun z => n (List.mem_cons_of_mem _ z), h.2⟩
  | x :: l, i + 1, c, h, n => by
    rw [List.set_cons_succ]
    rw [List.nodup_cons] at h ⊢
    refine ⟨fun z => ?_, nodup_set h.2 fun z => n (List.mem_cons_of_mem _ z)⟩
    rcases List.mem_or_eq_of_mem_set z with z | z
    · exact h.1 z
    · exact n (by rw [z]; simp)
variable {mg : Str → Option Value} {F H F' H' : Hp} {A : LA} {m : Mdl}
theorem LMx.ndt (z : LMx mg F H A m) : (A.ts.map (·.1) ++ A.ts.map (·.2.2)).Nodup := by
  have h := z.nd
  unfold LA.cells at h
  simp only [List.nodup_cons] at h
  exact h.2.2.2.2.2
def LA.setT (A : LA) (i : Nat) (t : Addr × Addr × Addr) (c : Addr) : LA := { A with ts := A.ts.set i (t.1, t.2.1, c) }
theorem setT_fst {A : LA} {i : Nat} {t : Addr × Addr × Addr} {c : Addr} (e : A.ts[i]? = some t) : (A.setT i t c).ts.map (·.1) = A.ts.map (·.1) := by
  unfold LA.setT
  rw [List.map_set]
  apply List.ext_getElem?
  intro j
  rw [List.getElem?_set]
  by_cases h : i = j
  · subst h
    rw [if_pos rfl, List.getElem?_map, e]
    obtain ⟨hi, _⟩ := List.getElem?_eq_some_iff.mp e
    rw [List.length_map, if_pos hi]; rfl
  · rw [if_neg h]
theorem setT_cells {A : LA} {i : Nat} {t : Addr × Addr × Addr} {c : Addr} (e : A.ts[i]? = some t) : (A.setT i t c).cells = A.a :: A.sg :: A.sz :: A.bg :: A.td :: (A.ts.map (·.1) ++ (A.ts.map (·.2.2)).set i c) := by
  have h1 := setT_fst (c := c) e
  unfold LA.cells
  rw [h1]
  show A.a :: A.sg :: A.sz :: A.bg :: A.td :: (A.ts.map (·.1) ++ (A.ts.set i (t.1, t.2.1, c)).map (·.2.2)) = _
  rw [List.map_set]
theorem LMx.learn (z : LMx mg F H A m) {i : Nat} {t : Addr × Addr × Addr} {c : Addr} {ds : List Int} (et : A.ts[i]? = some t) (o : TabO mg H' t.1 t.2.1 c ds) (sF : Same F H') (fc : F c = none) (nc : c = t.2.2 ∨ H c = none) (k : ∀ b, b ≠ t.1 → b ≠ t.2.2 → ∀ o, H b = some o → H' b = some o) :
    LMx mg F H' (A.setT i t c) { m with tabs := m.tabs.set i ds } ∧ (∀ b ∈ (A.setT i t c).cells, b ∈ A.cells ∨ H b = none) := by
  have mt := List.mem_of_getElem? et
  obtain ⟨hi, _⟩ := List.getElem?_eq_some_iff.mp et
  have n := z.ne.t t mt
  have cell : ∀ b ∈ (A.setT i t c).cells, b ∈ A.cells ∨ b = c := fun b hb => by
    rw [setT_cells et] at hb
    unfold LA.cells
    simp only [List.mem_cons, List.mem_append] at hb ⊢
    rcases hb with h | h | h | h | h | h | h
    · exact .inl (.inl h)
    · exact .inl (.inr (.inl h))
    · exact .inl (.inr (.inr (.inl h)))
    · exact .inl (.inr (.inr (.inr (.inl h))))
    · exact .inl (.inr (.inr (.inr (.inr (.inl h)))))
    · exact .inl (.inr (.inr (.inr (.inr (.inr (.inl h))))))
    · rcases List.mem_or_eq_of_mem_set h with h | h
      · exact .inl (.inr (.inr (.inr (.inr (.inr (.inr h))))))
      · exact .inr h
  have ndt := z.ndt
  have fst : ∀ (j : Nat) (u : Addr × Addr × Addr), A.ts[j]? = some u → (A.ts.map (·.1) ++ A.ts.map (·.2.2))[j]? = some u.1 := fun j u e => by
    obtain ⟨hj, _⟩ := List.getElem?_eq_some_iff.mp e
    rw [List.getElem?_append_left (by rw [List.length_map]; exact hj), List.getElem?_map, e]; rfl
  have snd : ∀ (j : Nat) (u : Addr × Addr × Addr), A.ts[j]? = some u → (A.ts.map (·.1) ++ A.ts.map (·.2.2))[A.ts.length + j]? = some u.2.2 := fun j u e => by
    rw [List.getElem?_append_right (by rw [List.length_map]; omega), List.length_map, Nat.add_sub_cancel_left, List.getElem?_map, e]; rfl
  refine ⟨⟨sF, k _ n.1.1.symm n.2.1.symm _ z.o, z.r, z.ar, z.rows, ?_, ⟨?_, fun j cs e => ?_⟩, k _ n.1.2.1.symm n.2.2.1.symm _ z.sg, k _ n.1.2.2.1.symm n.2.2.2.1.symm _ z.sz, k _ n.1.2.2.2.1.symm n.2.2.2.2.1.symm _ z.bg, k _ n.1.2.2.2.2.symm n.2.2.2.2.2.symm _ z.td, z.tn, z.tu, ?_, fun b hb => ?_⟩, fun b hb => ?_⟩
  · have h1 := congrArg (List.map V.ref) (setT_fst (c := c) et)
    rw [List.map_map, List.map_map] at h1
    exact z.tl.trans (by rw [show (A.setT i t c).ts.map (fun t => V.ref t.1) = A.ts.map fun t => V.ref t.1 from h1])
  · show (A.ts.set i _).length = (m.tabs.set i ds).length
    rw [List.length_set, List.length_set]; exact z.ts.1
  · rw [List.getElem?_set] at e
    by_cases hij : i = j
    · subst hij
      rw [if_pos rfl, if_pos (by rw [← z.ts.1]; exact hi)] at e
      cases e
      refine ⟨(t.1, t.2.1, c), ?_, o⟩
      show (A.ts.set i _)[i]? = _
      rw [List.getElem?_set, if_pos rfl, if_pos hi]
    · rw [if_neg hij] at e
      obtain ⟨u, eu, u1, u2⟩ := z.ts.2 j cs e
      obtain ⟨hj, _⟩ := List.getElem?_eq_some_iff.mp eu
      refine ⟨u, ?_, k _ (nd_ne ndt (fst j u eu) (fst i t et) (Ne.symm hij)) (nd_ne ndt (fst j u eu) (snd i t et) (show j ≠ A.ts.length + i by omega)) _ u1, k _ (nd_ne ndt (snd j u eu) (fst i t et) (show A.ts.length + j ≠ i by omega)) (nd_ne ndt (snd j u eu) (snd i t et) (show A.ts.length + j ≠ A.ts.length + i by omega)) _ u2⟩
      show (A.ts.set i _)[j]? = _
      rw [List.getElem?_set, if_neg hij]; exact eu
  · rw [setT_cells et]
    rcases nc with nc | nc
    · have e : (A.ts.map (·.2.2)).set i c = A.ts.map (·.2.2) := by
        apply List.ext_getElem?
        intro j
        rw [List.getElem?_set]
        by_cases h : i = j
        · subst h
          rw [if_pos rfl, List.length_map, if_pos hi, List.getElem?_map, et, nc]; rfl
        · rw [if_neg h]
      rw [e]; exact z.nd
    · have hc : c ∉ A.cells := fun hc => by
        obtain ⟨o', e'⟩ := z.dom c hc
        rw [nc] at e'; cases e'
      have e : A.a :: A.sg :: A.sz :: A.bg :: A.td :: (A.ts.map (·.1) ++ (A.ts.map (·.2.2)).set i c) = A.cells.set (5 + A.ts.length + i) c := by
        unfold LA.cells
        rw [show 5 + A.ts.length + i = (A.ts.length + i) + 1 + 1 + 1 + 1 + 1 by omega]
        simp only [List.set_cons_succ]
        congr 5
        rw [List.set_append, List.length_map, if_neg (by omega), Nat.add_sub_cancel_left]
      rw [e]
      exact nodup_set z.nd hc
  · rcases cell b hb with h | h
    · exact z.fr b h
    · rw [h]; exact fc
  · rcases cell b hb with h | h
    · exact .inl h
    · rcases nc with nc | nc
      · rw [h, nc]; exact .inl (LMx.mt mt).2
      · rw [h]; exact .inr nc
end K11T
section K11U
theorem putF_spot (A : LA) (m : Mdl) (v : Nat) : putF ("_spot" : Str) (.int (v : Nat)) (lmF A m) = lmF A { m with spot := v } := by
  unfold lmF putF
  rfl
theorem putF_spot0 (A : LA) (m : Mdl) : putF ("_spot" : Str) (.int 0) (lmF A m) = lmF A { m with spot := 0 } := by
  unfold lmF putF
  rfl
theorem putF_plane (A : LA) (m : Mdl) (v : Int) : putF ("_plane" : Str) (.int v) (lmF A m) = lmF A { m with plane := v } := by
  unfold lmF putF
  rfl
theorem putF_turns (A : LA) (m : Mdl) (v : Addr) (ts : List (Nat × Nat)) (us : List Addr) : putF ("_turns" : Str) (.ref v) (lmF A m) = lmF { A with tn := v, tus := us } { m with turns := ts } := by
  unfold lmF putF
  rfl
theorem learnL_ok {cs : List Int} {j i : Nat} (h : TabOk i cs) (hj : j < cs.length) : TabOk i (learnL cs j) := by
  refine ⟨by rw [learnL_len]; exact h.n, ?_, ?_, by rw [learnL_len]; exact h.c.n0⟩
  · intro c hc
    unfold learnL at hc
    have pos : ∀ x ∈ cs.set j (cs.getD j 0 + 2), 1 ≤ x := fun x hx => by
      rcases List.mem_or_eq_of_mem_set hx with hx | hx
      · exact h.c.pos x hx
      · have := h.c.pos _ (List.mem_of_getElem? (row_get hj 0))
        omega
    split at hc
    · obtain ⟨o, ho, rfl⟩ := List.mem_map.mp hc
      have := pos o ho
      omega
    · exact pos c hc
  · have hs : (cs.set j (cs.getD j 0 + 2)).sum = cs.sum + 2 := by
      have : ∀ (l : List Int) (j : Nat), j < l.length → (l.set j (l.getD j 0 + 2)).sum = l.sum + 2 := by
        intro l
        induction l with
        | nil => intro j h; simp at h
        | cons x l ih =>
          intro j h
          cases j with
          | zero => simp; omega
          | succ j =>
            have := ih j (by simpa using h)
            simp only [List.set_cons_succ, List.sum_cons, List.getD_cons_succ, this]
            omega
      exact this cs j hj
    have hle := h.c.le
    have hl3 : cs.length ≤ 3 := by rw [h.n]; split <;> decide
    have hlen : (cs.set j (cs.getD j 0 + 2)).length ≤ 3 := by rw [List.length_set]; exact hl3
    unfold learnL
    split
    · have hh : ∀ l : List Int, (l.map fun o => (o + 1) / 2).sum * 2 ≤ l.sum + l.length := by
        intro l
        induction l with
        | nil => simp
        | cons x l ih =>
          simp only [List.map_cons, List.sum_cons, List.length_cons]
          omega
      have := hh (cs.set j (cs.getD j 0 + 2))
      omega
    · omega
variable {m : Mdl}
theorem learnM_ok (h : MOk m) (hp : 0 ≤ m.plane) {j : Nat} (hj : (j : Int) < manyM m) : MOk (learnM m j) := by
  obtain ⟨h5, e5, hl, hc⟩ := h.tab hp
  refine ⟨h.big, h.sg, h.sz, h.bg, h.td, h.ar, by show (m.tabs.set _ _).length = 5; rw [List.length_set]; exact h.tb, fun i cs e => ?_, h.tn, h.tu, h.sp, h.wd⟩
  have e' : (m.tabs.set (tabM m) (learnL (countsM m) j))[i]? = some cs := e
  rw [List.getElem?_set] at e'
  by_cases hi : tabM m = i
  · rw [if_pos hi, if_pos (by rw [h.tb]; exact h5)] at e'
    cases e'
    exact learnL_ok (h.tk i _ (by rw [← hi]; exact e5)) (by omega)
  · rw [if_neg hi] at e'
    exact h.tk i cs e'
theorem markM_ok (h : MOk m) (k p j : Nat) : MOk (markM m k p j) := by
  unfold markM
  split
  · exact ⟨h.big, h.sg, by show (m.sizes.set _ _).length = _; rw [List.length_set]; exact h.sz, h.bg, h.td, h.ar, h.tb, h.tk, h.tn, h.tu, h.sp, h.wd⟩
  · split
    · exact ⟨h.big, by show (m.signs.set _ _).length = _; rw [List.length_set]; exact h.sg, by show (m.sizes.set _ _).length = _; rw [List.length_set]; exact h.sz, by show (m.begun.set _ _).length = _; rw [List.length_set]; exact h.bg, h.td, h.ar, h.tb, h.tk, h.tn, h.tu, h.sp, h.wd⟩
    · exact h
theorem toldM_ok (h : MOk m) (p : Nat) : MOk (toldM m p) := ⟨h.big, h.sg, h.sz, h.bg, by show (m.told.set _ _).length = _; rw [List.length_set]; exact h.td, h.ar, h.tb, h.tk, h.tn, h.tu, h.sp, h.wd⟩
theorem goOn_ok (h : MOk m) (hp : 0 ≤ m.plane) : MOk (goOn m) := by
  have hs := h.sp hp
  unfold goOn
  split
  · exact ⟨h.big, h.sg, h.sz, h.bg, h.td, h.ar, h.tb, h.tk, turnsOf_len _ _, fun kp hkp => turnsOf_mem hkp, fun _ => by show 0 < (turnsOf m.around m.signs).length; rw [turnsOf_len, ← h.tn]; omega, fun hp2 => h.wd hp⟩
  · exact ⟨h.big, h.sg, h.sz, h.bg, h.td, h.ar, h.tb, h.tk, h.tn, h.tu, fun _ => by show m.spot + 1 < m.turns.length; omega, fun _ => h.wd hp⟩
theorem markM_same (m : Mdl) (k p j : Nat) : (markM m k p j).plane = m.plane ∧ (markM m k p j).spot = m.spot ∧ (markM m k p j).turns = m.turns ∧ (markM m k p j).around = m.around ∧ (markM m k p j).tabs = m.tabs := by
  unfold markM
  split
  · exact ⟨rfl, rfl, rfl, rfl, rfl⟩
  · split <;> exact ⟨rfl, rfl, rfl, rfl, rfl⟩
theorem stepM_ok (h : MOk m) (hp : 0 ≤ m.plane) {j : Nat} (hj : (j : Int) < manyM m) : MOk (stepM m j) := by
  unfold stepM
  refine goOn_ok (toldM_ok (markM_ok (learnM_ok h hp hj) _ _ _) _) ?_
  show 0 ≤ (markM (learnM m j) _ _ _).plane
  rw [(markM_same _ _ _ _).1]; exact hp
theorem stepM_left (h : MOk m) (hp : 0 ≤ m.plane) (j : Nat) : leftM (stepM m j) + 1 = leftM m := by
  have hs := h.sp hp
  have hn := h.tn
  obtain ⟨a1, a2, a3, a4, a5⟩ := markM_same (learnM m j) (turnM m).1 (turnM m).2 j
  unfold stepM goOn leftM
  have b1 : (toldM (markM (learnM m j) (turnM m).1 (turnM m).2 j) (turnM m).2).spot = m.spot := a2
  have b2 : (toldM (markM (learnM m j) (turnM m).1 (turnM m).2 j) (turnM m).2).turns = m.turns := a3
  have b3 : (toldM (markM (learnM m j) (turnM m).1 (turnM m).2 j) (turnM m).2).plane = m.plane := a1
  have b4 : (toldM (markM (learnM m j) (turnM m).1 (turnM m).2 j) (turnM m).2).around = m.around := a4
  rw [b1, b2]
  have hpn : ¬ m.plane < 0 := by omega
  rw [if_neg hpn]
  by_cases hl : m.spot + 1 = m.turns.length
  · rw [if_pos hl]
    dsimp only
    rw [b3, b4]
    by_cases h0 : m.plane - 1 < 0
    · rw [if_pos h0]
      have : m.plane.toNat = 0 := by omega
      rw [this]; omega
    · rw [if_neg h0]
      have e : m.plane.toNat = (m.plane - 1).toNat + 1 := by omega
      rw [e, Nat.succ_mul]
      omega
  · rw [if_neg hl]
    dsimp only
    rw [b3, b4, if_neg hpn]
    omega
end K11U
section K11V
theorem none_of' {S : Addr → Prop} {F H F1 H1 : Hp} {d : Addr} (st : Stp S F H F1 H1) (h : H1 d = none) : H d = none := by
  cases e : H d with
  | none => rfl
  | some o =>
    obtain ⟨o', e'⟩ := st.dom d o e
    rw [h] at e'; cases e'
def preT (around : List (List Nat)) (signs : List Int) (idx : Nat) : List (Nat × Nat) := ((List.range idx).filter fun t => decide (kindAt around signs (t % around.length) = t / around.length)).map fun t => (t / around.length, t % around.length)
theorem preT_succ (around : List (List Nat)) (signs : List Int) {i j : Nat} (hj : j < around.length) : preT around signs (i * around.length + j + 1) = preT around signs (i * around.length + j) ++ (if kindAt around signs j = i then [(i, j)] else []) := by
  have h1 : (i * around.length + j) / around.length = i := by
    rw [Nat.mul_comm, Nat.mul_add_div (by omega), Nat.div_eq_of_lt hj]; omega
  have h2 : (i * around.length + j) % around.length = j := by
    rw [Nat.mul_comm, Nat.mul_add_mod, Nat.mod_eq_of_lt hj]
  unfold preT
  rw [List.range_succ, List.filter_append, List.map_append]
  congr 1
  rw [List.filter_cons, h1, h2]
  by_cases h : kindAt around signs j = i
  · rw [if_pos h, if_pos (decide_eq_true h)]
    simp only [List.filter_nil, List.map_cons, List.map_nil, h1, h2]
  · rw [if_neg h, if_neg (by simp [h])]; rfl
theorem preT_part (around : List (List Nat)) (signs : List Int) (i : Nat) : ∀ n, n ≤ around.length → preT around signs (i * around.length + n) = preT around signs (i * around.length) ++ ((List.range n).filter fun p => decide (kindAt around signs p = i)).map fun p => (i, p)
  | 0, _ => by simp
  | n + 1, h => by
    rw [← Nat.add_assoc, preT_succ around signs (show n < around.length by omega), preT_part around signs i n (by omega), List.append_assoc]
    congr 1
    rw [List.range_succ, List.filter_append, List.map_append]
    congr 1
    by_cases hk : kindAt around signs n = i
    · rw [if_pos hk]; simp [hk]
    · rw [if_neg hk]; simp [hk]
theorem preT_all (around : List (List Nat)) (signs : List Int) : preT around signs (3 * around.length) = turnsOf around signs := by
  have h (i : Nat) : preT around signs ((i + 1) * around.length) = preT around signs (i * around.length) ++ turnsK around signs i := by
    rw [Nat.succ_mul, preT_part around signs i around.length (Nat.le_refl _)]; rfl
  have h0 : preT around signs (0 * around.length) = [] := by rw [Nat.zero_mul]; rfl
  show preT around signs ((2 + 1) * around.length) = _
  rw [h 2, h 1, h 0, h0]; rfl
theorem TusAt.snoc {F : Hp} {tus : List Addr} {ts : List (Nat × Nat)} {q : Addr} {kp : Nat × Nat} (h : TusAt F tus ts) (hq : F q = some (.tup [.int (kp.1 : Int), .int (kp.2 : Int)])) : TusAt F (tus ++ [q]) (ts ++ [kp]) := by
  refine ⟨by rw [List.length_append, List.length_append, h.1]; rfl, fun i x e => ?_⟩
  by_cases hi : i < ts.length
  · rw [List.getElem?_append_left hi] at e
    obtain ⟨q', a, b⟩ := h.2 i x e
    exact ⟨q', by rw [List.getElem?_append_left (by rw [h.1]; exact hi)]; exact a, b⟩
  · rw [List.getElem?_append_right (by omega)] at e
    have : i = ts.length := by
      have := (List.getElem?_eq_some_iff.mp e).1
      simp at this; omega
    subst this
    rw [Nat.sub_self] at e
    cases e
    exact ⟨q, by rw [List.getElem?_append_right (by rw [h.1]; omega), h.1, Nat.sub_self]; rfl, hq⟩
theorem RowsAt.snoc {F : Hp} {rows : List Addr} {ar : List (List Nat)} {q : Addr} {row : List Nat} (h : RowsAt F rows ar) (hq : F q = some (.lst (row.map fun (n : Nat) => V.int (n : Int)))) : RowsAt F (rows ++ [q]) (ar ++ [row]) := by
  refine ⟨by rw [List.length_append, List.length_append, h.1]; rfl, fun i x e => ?_⟩
  by_cases hi : i < ar.length
  · rw [List.getElem?_append_left hi] at e
    obtain ⟨q', a, b⟩ := h.2 i x e
    exact ⟨q', by rw [List.getElem?_append_left (by rw [h.1]; exact hi)]; exact a, b⟩
  · rw [List.getElem?_append_right (by omega)] at e
    have : i = ar.length := by
      have := (List.getElem?_eq_some_iff.mp e).1
      simp at this; omega
    subst this
    rw [Nat.sub_self] at e
    cases e
    exact ⟨q, by rw [List.getElem?_append_right (by rw [h.1]; omega), h.1, Nat.sub_self]; rfl, hq⟩
end K11V
def sp_is_bit (_ : PySem.W.Frag) (_ : Str → Option Value) : Sp := SpN 1 fun vs H Q _ => ∃ x, vs = [x] ∧ Thg H x ∧ Q (.bl (goodV x)) H
def sp_check_bits (K : PySem.W.Frag) (mg : Str → Option Value) : Sp := SpN 1 fun vs H Q E => ∃ (a : Addr) (xs : List V), vs = [.ref a] ∧ SqL K H a xs ∧ (∀ x ∈ xs, Thg H x) ∧
  ((xs.all goodV = true ∧ Q .non H) ∨ (xs.all goodV = false ∧ E (.ref (exA mg "BadBits")) none H))
def sp_number_of (K : PySem.W.Frag) (_ : Str → Option Value) : Sp := SpN 1 fun vs H Q _ => ∃ (a : Addr) (bs : List Int), vs = [.ref a] ∧ SqL K H a (bs.map V.int) ∧ Q (.int (numL bs)) H
def sp_fixed (_ : PySem.W.Frag) (_ : Str → Option Value) : Sp := SpN 2 fun vs H Q _ => ∃ (n w : Int), vs = [.int n, .int w] ∧ 0 ≤ n ∧ 0 ≤ w ∧ w ≤ 10000 ∧ n.toNat < 2 ^ w.toNat ∧
  ∀ p H', Same H H' → H p = none → H' p = some (.lst (bitsV w.toNat n.toNat)) → Q (.ref p) H'
def SqNode (K : PySem.W.Frag) (H : Hp) (a : Addr) (l w : Int) (sc : Nat) : Prop := SqT K H a [.int l, .int w, .int sc]
abbrev SqNd (K : PySem.W.Frag) (H : Hp) (a : Addr) (n : Nd) : Prop := SqNode K H a n.l n.w n.s
def sp_next_node (K : PySem.W.Frag) (mg : Str → Option Value) : Sp := SpN 3 fun vs H Q E => ∃ (a b : Addr) (l w : Int) (sc : Nat) (cs : List Int) (j : Int), vs = [.ref a, .ref b, .int j] ∧ SqNode K H a l w sc ∧ SqN K H b cs ∧
  ((0 ≤ j ∧ j.toNat < cs.length ∧ CsOk cs ∧ 65536 ≤ w ∧ w < 131072 ∧ ∀ k p H', IsK (bord w cs (j.toNat + 1) - bord w cs j.toNat) k → Same H H' → H p = none → H' p = some (.tup [.int ((l + bord w cs j.toNat) * 2 ^ k), .int ((bord w cs (j.toNat + 1) - bord w cs j.toNat) * 2 ^ k), .int ((sc + k : Nat) : Int)]) → Q (.ref p) H') ∨
   (¬ (0 ≤ j ∧ j < cs.length) ∧ E (.ref (exA mg "Outside")) none H))
/-- the bits of the end of a node -/
def endOf (l r k : Int) : List Int :=
  if ((-(-l / 65536)) + 1) * 65536 ≤ l + r then fixL (k - 16).toNat (-(-l / 65536)).toNat else fixL (k - 15).toNat (-(-l / 32768)).toNat
structure Node (l r k : Int) : Prop where
  l0 : 0 ≤ l
  r0 : 65536 ≤ r
  r1 : r < 131072
  k0 : 16 ≤ k
  top : l + r ≤ 2 ^ k.toNat
def sp_end_of (K : PySem.W.Frag) (_ : Str → Option Value) : Sp := SpN 1 fun vs H Q _ => ∃ (q : Addr) (n : Nd), vs = [.ref q] ∧ SqNd K H q n ∧ NdOk n ∧ n.s ≤ 1000 ∧
  ∀ p H', Same H H' → H p = none → H' p = some (.lst ((endOf n.l n.w n.s).map V.int)) → Q (.ref p) H'
def RgO (K : PySem.W.Frag) (mg : Str → Option Value) (H : Hp) (a : Addr) (n : Nd) : Prop := ∃ dx q, H a = some (.ins (exA mg "Ranger") dx [("_node", .ref q)]) ∧ SqNd K H q n
def sp_Ranger___init__ (_ : PySem.W.Frag) (mg : Str → Option Value) : Sp := SpN 1 fun vs H Q _ => ∃ (a dx : Addr), vs = [.ref a] ∧ H a = some (.ins (exA mg "Ranger") dx []) ∧ Q .non (upd H a (.ins (exA mg "Ranger") dx [("_node", .ref (exA mg "ROOT"))]))
def sp_Ranger_take (K : PySem.W.Frag) (mg : Str → Option Value) : Sp := SpN 3 fun vs H Q _ => ∃ (a b dx q : Addr) (n : Nd) (cs : List Int) (j : Nat), vs = [.ref a, .ref b, .int j] ∧ H a = some (.ins (exA mg "Ranger") dx [("_node", .ref q)]) ∧ SqNd K H q n ∧ SqL K H b (cs.map V.int) ∧ j < cs.length ∧ CsOk cs ∧ NdOk n ∧
  ∀ p H1, Same H H1 → H p = none → H1 p = some (.tup [.int (childN n cs j).l, .int (childN n cs j).w, .int ((childN n cs j).s : Nat)]) → Q .non (upd H1 a (.ins (exA mg "Ranger") dx [("_node", .ref p)]))
def sp_Ranger_end (K : PySem.W.Frag) (mg : Str → Option Value) : Sp := SpN 1 fun vs H Q _ => ∃ (a : Addr) (n : Nd), vs = [.ref a] ∧ RgO K mg H a n ∧ NdOk n ∧ n.s ≤ 1000 ∧
  ∀ p H', Same H H' → H p = none → H' p = some (.lst ((endOf n.l n.w n.s).map V.int)) → Q (.ref p) H'
def sp_holds (K : PySem.W.Frag) (_ : Str → Option Value) : Sp := SpN 3 fun vs H Q _ => ∃ (q : Addr) (n : Nd) (v : Int) (many : Nat), vs = [.ref q, .int v, .int many] ∧ SqNd K H q n ∧ NdOk n ∧ n.s ≤ 1000 ∧ many ≤ 1000 ∧ 0 ≤ v ∧ v < 2 ^ many ∧ Q (.bl (decide (HoldsP n v many))) H
def sp_told_child (K : PySem.W.Frag) (_ : Str → Option Value) : Sp := SpN 4 fun vs H Q _ => ∃ (q b : Addr) (n : Nd) (cs : List Int) (v : Int) (many : Nat), vs = [.ref q, .ref b, .int v, .int many] ∧ SqNd K H q n ∧ SqL K H b (cs.map V.int) ∧ CsOk cs ∧ cs.length ≤ 3 ∧ NdOk n ∧ n.s ≤ 900 ∧ many ≤ 1000 ∧ 0 ≤ v ∧ v < 2 ^ many ∧
  (∀ j, FirstJ v many n cs j → ∀ p c H', Same H H' → H p = none → H' p = some (.tup [.int j, .ref c]) → H c = none → H' c = some (.tup [.int (childN n cs j).l, .int (childN n cs j).w, .int ((childN n cs j).s : Nat)]) → Q (.ref p) H') ∧
  (NoneJ v many n cs → ∀ p H', Same H H' → H p = none → H' p = some (.tup [.non, .ref q]) → Q (.ref p) H')
def sp_told_letters (K : PySem.W.Frag) (mg : Str → Option Value) : Sp := SpN 2 fun vs H Q _ => ∃ (F : Hp) (A : LA) (m : Mdl) (b : Addr) (bs : List Int), vs = [.ref b, .ref A.a] ∧ LMx mg F H A m ∧ MOk m ∧ leftM m ≤ 100 ∧ SqL K F b (bs.map V.int) ∧ Bits bs ∧ bs.length ≤ 1000 ∧
  ∀ js m' F' H' A' p, Told (numL bs) bs.length m js m' → Stp (fun c => c ∈ A.cells) F H F' H' → LMx mg F' H' A' m' → A'.a = A.a → (∀ c ∈ A'.cells, c ∈ A.cells ∨ H c = none) → MOk m' → H p = none → F' p = some (.lst (js.map fun (j : Nat) => V.int (j : Int))) → Q (.ref p) H'
def sp_want_rect (K : PySem.W.Frag) (_ : Str → Option Value) : Sp := SpN 1 fun vs H Q _ => ∃ (r : Addr) (x0 x1 y0 y1 : Int), vs = [.ref r] ∧ SqT K H r [.int x0, .int x1, .int y0, .int y1] ∧ x0 ≤ x1 ∧ y0 ≤ y1 ∧ Q .non H
def sp_Table___init__ (_ : PySem.W.Frag) (mg : Str → Option Value) : Sp := SpN 2 fun vs H Q E => ∃ (p dx : Addr) (m : Int), vs = [.ref p, .int m] ∧ H p = some (.ins (exA mg "Table") dx []) ∧
  (((m = 2 ∨ m = 3) ∧ ∀ l l0 t H1 H', Same H H1 → H t = none → H1 l0 = some (.lst [.int 1]) → H l0 = none → H1 l = none → H' = upd (upd H1 l (.lst ((List.replicate m.toNat 1).map V.int))) p (.ins (exA mg "Table") dx [("_counts", .ref l)]) → Q .non H') ∨
   (¬ (m = 2 ∨ m = 3) ∧ ∀ H', Same H H' → E (.ref (exA mg "Outside")) none H'))
def sp_Table_counts (_ : PySem.W.Frag) (mg : Str → Option Value) : Sp := SpN 1 fun vs H Q _ => ∃ (p dx l : Addr) (cs : List Int), vs = [.ref p] ∧ TabO mg H p dx l cs ∧ ∀ q, H q = none → Q (.ref q) (upd H q (.lst (cs.map V.int)))
def sp_Table_learn (_ : PySem.W.Frag) (mg : Str → Option Value) : Sp := SpN 2 fun vs H Q E => ∃ (F : Hp) (p dx l : Addr) (cs : List Int) (j : Int), vs = [.ref p, .int j] ∧ TabO mg H p dx l cs ∧ cs.length ≤ 100 ∧ Same F H ∧ F p = none ∧ F l = none ∧
  ((0 ≤ j ∧ j.toNat < cs.length ∧ ∀ l' H', TabO mg H' p dx l' (learnL cs j.toNat) → Same F H' → F l' = none → (l' = l ∨ H l' = none) → (∀ b, b ≠ p → b ≠ l → ∀ o, H b = some o → H' b = some o) → (∃ o, H' l = some o) → Q .non H') ∨
   (¬ (0 ≤ j ∧ j < cs.length) ∧ E (.ref (exA mg "Outside")) none H))
def sp_want_planes (_ : PySem.W.Frag) (_ : Str → Option Value) : Sp := SpN 1 fun vs H Q _ => ∃ (p : Int), vs = [.int p] ∧ 1 ≤ p ∧ p ≤ 20 ∧ Q .non H
def sp_neighbours_of (_ : PySem.W.Frag) (_ : Str → Option Value) : Sp := SpN 2 fun vs H Q _ => ∃ (F : Hp) (w h : Nat), vs = [.int w, .int h] ∧ Same F H ∧ w * h ≤ 1000 ∧ w ≤ 1000 ∧ h ≤ 1000 ∧
  ∀ F' H' ar rows, Stp S0 F H F' H' → F' ar = some (.lst (rows.map V.ref)) → RowsAt F' rows (besideAll w h) → Q (.ref ar) H'
def sp_LineModel__is_near (_ : PySem.W.Frag) (mg : Str → Option Value) : Sp := SpN 2 fun vs H Q _ => ∃ (a : Addr) (p : Nat) (around : List (List Nat)) (signs : List Int), vs = [.ref a, .int p] ∧ NearO mg H a around signs ∧ NearP around signs ∧ p < around.length ∧ ∀ H', Same H H' → Q (.bl (nearB around signs p)) H'
def sp_LineModel__turns_of_plane (_ : PySem.W.Frag) (mg : Str → Option Value) : Sp := SpN 1 fun vs H Q _ => ∃ (F : Hp) (a : Addr) (around : List (List Nat)) (signs : List Int), vs = [.ref a] ∧ Same F H ∧ NearO mg H a around signs ∧ NearP around signs ∧
  ∀ F' H' tn tus, Stp S0 F H F' H' → F' tn = some (.lst (tus.map V.ref)) → TusAt F' tus (turnsOf around signs) → Q (.ref tn) H'
def sp_LineModel___init__ (_ : PySem.W.Frag) (mg : Str → Option Value) : Sp := SpN 3 fun vs H Q _ => ∃ (F : Hp) (a dx r : Addr) (x0 y0 : Int) (w h : Nat) (pl : Int), vs = [.ref a, .ref r, .int pl] ∧ Same F H ∧ F r = some (.tup [.int x0, .int (x0 + w), .int y0, .int (y0 + h)]) ∧ H a = some (.ins (exA mg "LineModel") dx []) ∧ F a = none ∧ 0 < w ∧ 0 < h ∧ w * h ≤ 1000 ∧ 1 ≤ pl ∧ pl ≤ 20 ∧
  ∀ F' H' A, A.a = a → Stp (fun c => c = a) F H F' H' → LMx mg F' H' A (initM x0 (x0 + w) y0 (y0 + h) pl (besideAll w h)) → (∀ c ∈ A.cells, c = a ∨ H c = none) → Q .non H'
def sp_LineModel__table_number (_ : PySem.W.Frag) (mg : Str → Option Value) : Sp := SpN 3 fun vs H Q _ => ∃ (F : Hp) (A : LA) (m : Mdl) (k p : Nat), vs = [.ref A.a, .int k, .int p] ∧ LMx mg F H A m ∧ MOk m ∧ k < 3 ∧ p < m.around.length ∧ ∀ H', Same H H' → Q (.int (tno m k p)) H'
def sp_LineModel_wanted (_ : PySem.W.Frag) (mg : Str → Option Value) : Sp := SpN 1 fun vs H Q _ => ∃ (F : Hp) (A : LA) (m : Mdl), vs = [.ref A.a] ∧ LMx mg F H A m ∧ MOk m ∧ ((m.plane < 0 ∧ Q .non H) ∨ (0 ≤ m.plane ∧ ∀ p c H', Same H H' → H p = none → H' p = some (.tup [.int (tabM m : Nat), .int (manyM m), .ref c]) → H' c = some (.tup [.int (cellM m).1, .int (cellM m).2]) → Q (.ref p) H'))
def sp_LineModel_wanted_counts (_ : PySem.W.Frag) (mg : Str → Option Value) : Sp := SpN 1 fun vs H Q _ => ∃ (F : Hp) (A : LA) (m : Mdl), vs = [.ref A.a] ∧ LMx mg F H A m ∧ MOk m ∧ ((m.plane < 0 ∧ ∀ p H', Same H H' → H p = none → H' p = some (.lst []) → Q (.ref p) H') ∨ (0 ≤ m.plane ∧ ∀ p H', Same H H' → H p = none → H' p = some (.lst ((countsM m).map V.int)) → Q (.ref p) H'))
def sp_LineModel__go_on (_ : PySem.W.Frag) (mg : Str → Option Value) : Sp := SpN 1 fun vs H Q _ => ∃ (F : Hp) (A : LA) (m : Mdl), vs = [.ref A.a] ∧ LMx mg F H A m ∧ MOk m ∧ 0 ≤ m.plane ∧ ∀ F' H' tn tus, Stp (fun c => c = A.a) F H F' H' → LMx mg F' H' { A with tn := tn, tus := tus } (goOn m) → Q .non H'
def sp_LineModel_take (_ : PySem.W.Frag) (mg : Str → Option Value) : Sp := SpN 2 fun vs H Q _ => ∃ (F : Hp) (A : LA) (m : Mdl) (j : Nat), vs = [.ref A.a, .int j] ∧ LMx mg F H A m ∧ MOk m ∧ 0 ≤ m.plane ∧ (j : Int) < manyM m ∧ ∀ F' H' A', Stp (fun c => c ∈ A.cells) F H F' H' → LMx mg F' H' A' (stepM m j) → A'.a = A.a → (∀ c ∈ A'.cells, c ∈ A.cells ∨ H c = none) → Q .non H'
def sp_law_pool (K : PySem.W.Frag) (_ : Str → Option Value) : Sp := SpN 2 fun vs H Q _ => ∃ (s : Addr) (ns : List Int) (k : Int), vs = [.ref s, .int k] ∧ SqL K H s (ns.map V.int) ∧ 0 ≤ k ∧ k < 100 ∧
  ∀ p H', Src H H' p → Q (.ref p) H'
def sp_law_take (_ : PySem.W.Frag) (_ : Str → Option Value) : Sp := SpN 2 fun vs H Q _ => ∃ (F : Hp) (p : Addr) (t : Int), vs = [.ref p, .int t] ∧ Src F H p ∧ 0 < t ∧ t < 1073741824 ∧
  ∀ r H', Src F H' p → Stp (S1 p) F H F H' → 0 ≤ r → r < t → Q (.int r) H'
def sp_law_one (K : PySem.W.Frag) (_ : Str → Option Value) : Sp := SpN 2 fun vs H Q _ => ∃ (F : Hp) (p q : Addr) (xs : List V), vs = [.ref p, .ref q] ∧ Src F H p ∧ SqL K F q xs ∧ 0 < xs.length ∧ xs.length < 1000 ∧
  ∀ r H', Src F H' p → Stp (S1 p) F H F H' → r ∈ xs → Q r H'
structure LineOk (w h : Nat) (pl : Int) : Prop where
  w0 : 0 < w
  h0 : 0 < h
  wh : w * h ≤ 4
  p0 : 1 ≤ pl
  p1 : pl * (w * h : Nat) ≤ 12
def sp_law_line (_ : PySem.W.Frag) (_ : Str → Option Value) : Sp := SpN 2 fun vs H Q _ => ∃ (F : Hp) (p : Addr), vs = [.ref p, .int 12] ∧ Src F H p ∧
  ∀ q r F' H' x0 y0 w h pl, Src F' H' p → Stp (S1 p) F H F' H' → F' q = some (.tup [.ref r, .int pl]) → F' r = some (.tup [.int x0, .int (x0 + (w : Nat)), .int y0, .int (y0 + (h : Nat))]) → LineOk w h pl → Q (.ref q) H'
/-- the model of a line, new -/
abbrev iniM (x0 y0 : Int) (w h : Nat) (pl : Int) : Mdl := initM x0 (x0 + w) y0 (y0 + h) pl (besideAll w h)
def sp_law_row (_ : PySem.W.Frag) (_ : Str → Option Value) : Sp := SpN 3 fun vs H Q _ => ∃ (F : Hp) (p r : Addr) (x0 y0 : Int) (w h : Nat) (pl : Int), vs = [.ref p, .ref r, .int pl] ∧ Src F H p ∧ F r = some (.tup [.int x0, .int (x0 + (w : Nat)), .int y0, .int (y0 + (h : Nat))]) ∧ LineOk w h pl ∧
  ∀ q la pa F' H' js m n, Src F' H' p → Stp (S1 p) F H F' H' → F' q = some (.tup [.ref la, .ref pa]) → F' la = some (.lst (js.map fun (j : Nat) => V.int (j : Int))) → F' pa = some (.lst ((endOf n.l n.w n.s).map V.int)) → Path AnyJ (iniM x0 y0 w h pl) rootN js m n → m.plane < 0 → Q (.ref q) H'
def sp_law_right (_ : PySem.W.Frag) (_ : Str → Option Value) : Sp := SpN 1 fun vs H Q _ => ∃ (F : Hp) (p : Addr), vs = [.ref p] ∧ Src F H p ∧ ∀ H', Same F H' → Q (.bl true) H'
def sp_lawK (K : PySem.W.Frag) : Sp := SpN 1 fun vs H Q _ => ∃ (a : Addr) (ns : List Int), vs = [.ref a] ∧ SqL K H a (ns.map V.int) ∧ ns.length ≤ 63 ∧ ∀ H', Q (.bl true) H'
def sp_law (K : PySem.W.Frag) (_ : Str → Option Value) : Sp := sp_lawK K
theorem law_start {K : PySem.W.Frag} {H : Hp} {a : Addr} {ns : List Int} {E : XK} (hl : ns.length ≤ 63) (hS : SqL K H a (ns.map V.int)) : sp_lawK K [.ref a] H (fun v _ => v = .bl true) E := ⟨rfl, a, ns, rfl, hS, hl, fun _ => rfl⟩
theorem Bits.app {a b : List Int} (ha : Bits a) (hb : Bits b) : Bits (a ++ b) := fun x hx => (List.mem_append.mp hx).elim (ha x) (hb x)
theorem at_nat' {xs : List V} {j : Nat} {v : V} (h : xs[j]? = some v) : atI xs (j : Int) = some v := atI_nat h
theorem Stp.weak {S : Addr → Prop} {F H F' H' : Hp} (a : Stp S F H F' H') : Stp S F H F H' := ⟨Same.refl F, a.ff.trans a.fh, fun _ _ _ => rfl, a.keep, a.dom⟩
theorem Stp.ofSame {S : Addr → Prop} {F H H' : Hp} (h : Same F H) (s : Same H H') : Stp S F H F H' := ⟨Same.refl F, h.trans s, fun _ _ _ => rfl, fun b o _ e => s b o e, fun b o e => ⟨o, s b o e⟩⟩
theorem ixN_at {n : Nat} {i : Int} (h0 : 0 ≤ i) (h1 : i.toNat < n) : ixN n i = some i.toNat := by
  unfold ixN
  rw [if_pos h0, if_pos (by omega)]
theorem good_bits {bs : List Int} (h : Bits bs) : (bs.map V.int).all goodV = true := by
  rw [List.all_eq_true]
  intro x hx
  obtain ⟨b, hb, rfl⟩ := List.mem_map.mp hx
  rcases h b hb with rfl | rfl <;> rfl
theorem thg_ints (H : Hp) (bs : List Int) : ∀ x ∈ bs.map V.int, Thg H x := fun x hx => by
  obtain ⟨b, _, rfl⟩ := List.mem_map.mp hx
  exact .int b
theorem same_none {H H' : Hp} {p : Addr} (s : Same H H') (h : H' p = none) : H p = none := by
  cases e : H p with
  | none => rfl
  | some o => rw [s _ _ e] at h; cases h
theorem c_sum {X : Cx} (K : PySem.W.Frag) (e : X.K = K) (hc : X.calm = true) : CallR X (.builtin "sum") (rSum K) := by subst e; exact cr_sum hc
theorem ixN_of {n j : Nat} (h : j < n) : ixN n (j : Int) = some j := by
  unfold ixN
  rw [if_pos (by omega), if_pos (by omega), Int.toNat_natCast]
theorem lenN {K : PySem.W.Frag} {H : Hp} {Q : VK} {b : Addr} {cs : List Int} (hB : SqN K H b cs) (q : Q (.int cs.length) H) : rLen K [.ref b] H Q := ⟨b, cs.map V.int, rfl, hB, by rw [List.length_map]; exact q⟩
theorem seqT' {K : PySem.W.Frag} {H H' : Hp} {a : Addr} {xs : List V} (e : Same H H') (h : SqT K H a xs) : SqT K H' a xs := h.imp (fun h => h.imp (fun h => e _ _ h) fun ⟨o, h⟩ => ⟨o, e _ _ h⟩) fun h => h
theorem SqN.mono {K : PySem.W.Frag} {H H' : Hp} {b : Addr} {cs : List Int} (hB : SqN K H b cs) (s : Same H H') : SqN K H' b cs := hB.imp (fun h => s.seq h) (fun h => seqT' s h)
theorem slN {K : PySem.W.Frag} {H : Hp} {Q : VK} {b : Addr} {cs : List Int} {j : Nat} (hB : SqN K H b cs) (hj : j < cs.length) (h : ∀ q H', Same H H' → SqN K H' q (cs.take j) → Q (.ref q) H') : rSlL K (.ref b) none (some (j : Int)) H Q ∨ rSlT K (.ref b) none (some (j : Int)) H Q := by
  have ec : cutV (cs.map V.int) none (some (j : Int)) = (cs.take j).map V.int := by rw [cutV_to, List.map_take]
  rcases hB with hB | hB
  · exact .inl (s_slL hB fun p hp => h p _ (Stp.new (S := S0) (Same.refl _) hp).same (.inl (SqL.of (by rw [upd_same, ec]))))
  · refine .inr ⟨b, _, rfl, hB, fun z => ?_, fun p hp => h p _ (Stp.new (S := S0) (Same.refl _) hp).same (.inr (SqT.of (by rw [upd_same, ec])))⟩
    have := z.2
    rw [HT.sIx_nat, List.length_map] at this
    omega
theorem ixNN {K : PySem.W.Frag} {H : Hp} {Q : VK} {b : Addr} {cs : List Int} {j : Nat} (hB : SqN K H b cs) (hj : j < cs.length) (q : Q (.int cs[j]) H) : rIxL K (.ref b) (.int (j : Int)) H Q ∨ rIxT K (.ref b) (.int (j : Int)) H Q := by
  rcases hB with hB | hB
  · exact .inl (s_ixL hB (at_nat' (get_int hj)) q)
  · exact .inr (s_ixT hB (at_nat' (get_int hj)) q)
theorem cshl {i j : Int} {w : Nat} (hi : 0 ≤ i) (hl : i ≤ 2 ^ w) (hw : w ≤ 1000) (hj : 0 ≤ j) (hj2 : j ≤ 1000) : CShl i j := by
  have e : ((2 ^ (w + 1) : Nat) : Int) = 2 ^ (w + 1) := by simp
  have e2 : (2 : Int) ^ (w + 1) = 2 ^ w * 2 := Int.pow_succ ..
  have p : (0 : Int) < 2 ^ w := Int.pow_pos (by decide)
  have h : Builtin.Int.intBits i ≤ w + 1 := (intBits_le (w := w + 1) hi).mpr (by
    refine Int.ofNat_lt.mp ?_
    rw [e, Int.toNat_of_nonneg hi]; omega)
  exact ⟨hj, by omega⟩
section K11W
/-- an object under way: its own cells and what they hold -/
structure Own (F H : Hp) (a C dx : Addr) (Fn Hn : Hp) (fs : List (Str × V)) (L : List (Addr × HO)) : Prop where
  st : Stp (fun c => c = a) F H Fn Hn
  o : Hn a = some (.ins C dx fs)
  ct : ∀ p ∈ L, Hn p.1 = some p.2
  nd : (a :: L.map (·.1)).Nodup
  fr : ∀ b ∈ a :: L.map (·.1), Fn b = none
  nw : ∀ p ∈ L, H p.1 = none
section
variable {F H Fn Hn F' H' : Hp} {a C dx : Addr} {fs fs' : List (Str × V)} {L : List (Addr × HO)}
theorem Own.ne (z : Own F H a C dx Fn Hn fs L) {p : Addr × HO} (hp : p ∈ L) : p.1 ≠ a := fun e => by
  have := z.nd
  rw [List.nodup_cons] at this
  exact this.1 (e ▸ List.mem_map.mpr ⟨p, hp, rfl⟩)
theorem Own.nwm (z : Own F H a C dx Fn Hn fs L) : ∀ b ∈ L.map (·.1), H b = none := fun b hb => by
  obtain ⟨p, hp, rfl⟩ := List.mem_map.mp hb
  exact z.nw p hp
theorem Own.fld (z : Own F H a C dx Fn Hn fs L) (fs' : List (Str × V)) : Own F H a C dx Fn (upd Hn a (.ins C dx fs')) fs' L :=
  ⟨z.st.trans (Stp.wr z.st.fh rfl (z.fr a (by simp))), upd_same, fun p hp => by rw [upd_ne (z.ne hp)]; exact z.ct p hp, z.nd, z.fr, z.nw⟩
theorem Own.stp (z : Own F H a C dx Fn Hn fs L) (st : Stp S0 Fn Hn F' H') : Own F H a C dx F' H' fs L :=
  ⟨z.st.trans st.up, st.same _ _ z.o, fun p hp => st.same _ _ (z.ct p hp), z.nd, fun b hb => by
    rcases List.mem_cons.mp hb with h | h
    · rw [h, st.fo _ _ z.o]; exact z.fr a (by simp)
    · obtain ⟨p, hp, rfl⟩ := List.mem_map.mp h
      rw [st.fo _ _ (z.ct p hp)]; exact z.fr _ hb, z.nw⟩
theorem Own.same (z : Own F H a C dx Fn Hn fs L) (s : Same Hn H') : Own F H a C dx Fn H' fs L := z.stp (Stp.ofSame z.st.fh s)
theorem Own.add (z : Own F H a C dx Fn Hn fs L) {q : Addr} {o : HO} (hq : Hn q = none) (e : H' q = some o) (s : Same Hn H') : Own F H a C dx Fn H' fs ((q, o) :: L) := by
  have z2 := z.same s
  have hqa : q ≠ a := fun h => by rw [h, z.o] at hq; cases hq
  have hqL : ∀ p ∈ L, p.1 ≠ q := fun p hp h => by
    have := z.ct p hp
    rw [h, hq] at this; cases this
  refine ⟨z2.st, z2.o, fun p hp => ?_, ?_, fun b hb => ?_, fun p hp => ?_⟩
  · rcases List.mem_cons.mp hp with h | h
    · rw [h]; exact e
    · exact z2.ct p h
  · have := z.nd
    rw [List.map_cons, List.nodup_cons]
    rw [List.nodup_cons] at this
    refine ⟨fun h => ?_, ?_⟩
    · rcases List.mem_cons.mp h with h | h
      · exact hqa h.symm
      · exact this.1 h
    · rw [List.nodup_cons]
      refine ⟨fun h => ?_, this.2⟩
      obtain ⟨p, hp, h⟩ := List.mem_map.mp h
      exact hqL p hp h
  · rcases List.mem_cons.mp hb with h | h
    · rw [h]; exact z.fr a (by simp)
    · rcases List.mem_cons.mp h with h | h
      · rw [h]; exact z.st.fh.free hq
      · exact z.fr b (List.mem_cons_of_mem _ h)
  · rcases List.mem_cons.mp hp with h | h
    · rw [h]; exact none_of' z.st hq
    · exact z.nw p h
theorem Own.new (z : Own F H a C dx Fn Hn fs L) {q : Addr} (o : HO) (hq : Hn q = none) : Own F H a C dx Fn (upd Hn q o) fs ((q, o) :: L) :=
  z.add hq upd_same (Stp.new (S := S0) (Same.refl _) hq).same
theorem Own.tab {mg : Str → Option Value} {x d l : Addr} {cs : List Int} (z : Own F H a C dx Fn Hn fs L) (s : Same Hn H') (hx : Hn x = none) (hl : Hn l = none) (n : x ≠ l) (o : TabO mg H' x d l cs) : Own F H a C dx Fn H' fs ((l, .lst (cs.map V.int)) :: (x, .ins (exA mg "Table") d [("_counts", .ref l)]) :: L) := by
  have z1 : Own F H a C dx Fn (upd Hn x (.ins (exA mg "Table") d [("_counts", .ref l)])) fs ((x, .ins (exA mg "Table") d [("_counts", .ref l)]) :: L) := z.new _ hx
  refine z1.add (by rw [upd_ne n.symm]; exact hl) o.2 fun b u e => ?_
  by_cases h : b = x
  · rw [h, upd_same] at e; cases e; rw [h]; exact o.1
  · rw [upd_ne h] at e; exact s _ _ e
end
theorem nodup_idx {L M : List Addr} (h : L.Nodup) (f : Nat → Nat) (hf : ∀ i j, i < M.length → j < M.length → f i = f j → i = j) (e : ∀ i, i < M.length → M[i]? = L[f i]?) : M.Nodup := by
  rw [List.nodup_iff_pairwise_ne, List.pairwise_iff_getElem]
  intro i j hi hj hij he
  have e1 := e i hi
  have e2 := e j hj
  rw [List.getElem?_eq_getElem hi] at e1
  rw [List.getElem?_eq_getElem hj] at e2
  refine nd_ne h e1.symm e2.symm (fun z => ?_) he
  have := hf i j hi hj z
  omega
theorem same_none' {H H' : Hp} {p : Addr} (s : Same H H') (h : H' p = none) : H p = none := by
  cases e : H p with
  | none => rfl
  | some o => rw [s _ _ e] at h; cases h
theorem mk_tab {K : PySem.W.Frag} {mg : Str → Option Value} {H1 : Hp} {m : Nat} {P : Addr → Hp → Prop} {E : XK} {sp : Sp} (hsp : ∀ vs H Q E, (∃ (p dx : Addr), vs = [.ref p, .int m] ∧ H p = some (.ins (exA mg "Table") dx []) ∧ ∀ l l0 t H1 H', Same H H1 → H t = none → H1 l0 = some (.lst [.int 1]) → H l0 = none → H1 l = none → H' = upd (upd H1 l (.lst ((List.replicate m 1).map V.int))) p (.ins (exA mg "Table") dx [("_counts", .ref l)]) → Q .non H') → sp vs H Q E)
    (h : ∀ x dx l H2, Same H1 H2 → H1 x = none → H1 l = none → x ≠ l → TabO mg H2 x dx l (List.replicate m 1) → P x H2) :
    ∀ x dx, H1 x = none → H1 dx = none → dx ≠ x → sp (.ref x :: ([.int m] ++ [])) (upd (upd H1 dx (.own x)) x (.ins (exA mg "Table") dx [])) (fun v H2 => v = .non ∧ P x H2) E := fun x dx hx hd ndx => by
  refine hsp _ _ _ _ ⟨x, dx, rfl, upd_same, fun l l0 t Ha Hb s _ _ _ hl e => ⟨rfl, ?_⟩⟩
  have s1 : Same H1 Ha := fun b o eb => s _ _ (by rw [upd_ne (ne_of_none eb hx), upd_ne (ne_of_none eb hd)]; exact eb)
  have ex : Ha x = some (.ins (exA mg "Table") dx []) := s _ _ upd_same
  have nxl : x ≠ l := ne_of_none ex hl
  have hl1 : H1 l = none := same_none' s1 hl
  refine h x dx l Hb ?_ hx hl1 nxl ?_
  · rw [e]
    exact fun b o eb => by rw [upd_ne (ne_of_none eb hx), upd_ne (ne_of_none eb hl1)]; exact s1 _ _ eb
  · rw [e]
    exact ⟨upd_same, by rw [upd_ne nxl.symm, upd_same]⟩
end K11W
section K11X
theorem besideAll_len (w h : Nat) : (besideAll w h).length = w * h := by unfold besideAll; rw [List.length_map, List.length_range]
theorem besideAll_ok {w h : Nat} : ∀ row ∈ besideAll w h, row.length ≤ 4 ∧ ∀ o ∈ row, o < (besideAll w h).length := fun row hr => by
  obtain ⟨p, _, rfl⟩ := List.mem_map.mp hr
  unfold besideL
  refine ⟨?_, fun o ho => ?_⟩
  · rw [List.length_map]
    exact Nat.le_trans (List.length_filter_le _ _) (by unfold arnd; simp)
  · obtain ⟨⟨a', b'⟩, hab, rfl⟩ := List.mem_map.mp ho
    have m := (List.mem_filter.mp hab).2
    unfold inB at m
    simp only [Bool.and_eq_true, decide_eq_true_iff] at m
    obtain ⟨⟨a0, a1⟩, b0, b1⟩ := m
    rw [besideAll_len]
    obtain ⟨a, rfl⟩ : ∃ a : Nat, a' = (a : Int) := ⟨a'.toNat, by omega⟩
    obtain ⟨b, rfl⟩ : ∃ b : Nat, b' = (b : Int) := ⟨b'.toNat, by omega⟩
    have e : ((b : Int) * (w : Int) + (a : Int)).toNat = b * w + a := by
      rw [← Int.natCast_mul, ← Int.natCast_add, Int.toNat_natCast]
    show ((b : Int) * (w : Int) + (a : Int)).toNat < _
    rw [e]
    have h1 : (b + 1) * w ≤ h * w := Nat.mul_le_mul_right _ (by omega)
    rw [Nat.succ_mul, Nat.mul_comm h w] at h1
    omega
theorem besideAll_near {w h : Nat} (hb : w * h ≤ 1000) (x : Int) : NearP (besideAll w h) (List.replicate (besideAll w h).length x) := ⟨by rw [besideAll_len]; exact hb, List.length_replicate, besideAll_ok⟩
theorem initM_ok {x0 y0 pl : Int} {w h : Nat} (hw : 0 < w) (hh : 0 < h) (hb : w * h ≤ 1000) : MOk (iniM x0 y0 w h pl) := by
  have h0 : 0 < w * h := Nat.mul_pos hw hh
  have hw1 : w ≤ 1000 := Nat.le_trans (Nat.le_mul_of_pos_right w hh) hb
  refine ⟨by show (besideAll w h).length ≤ _; rw [besideAll_len]; exact hb, List.length_replicate, List.length_replicate, List.length_replicate, List.length_replicate, besideAll_ok, rfl, fun i cs e => ?_, turnsOf_len _ _, fun kp hkp => turnsOf_mem hkp, fun _ => by show 0 < (turnsOf _ _).length; rw [turnsOf_len, besideAll_len]; exact h0, fun _ => ⟨by show x0 < x0 + (w : Int); omega, by show x0 + (w : Int) - x0 < _; omega⟩⟩
  have ok3 : ∀ i, i < 3 → TabOk i [1, 1, 1] := fun i hi => ⟨by rw [if_pos hi]; rfl, by decide, by decide, by decide⟩
  have ok2 : ∀ i, ¬ i < 3 → TabOk i [1, 1] := fun i hi => ⟨by rw [if_neg hi]; rfl, by decide, by decide, by decide⟩
  have e' : ([[1, 1, 1], [1, 1, 1], [1, 1, 1], [1, 1], [1, 1]] : List (List Int))[i]? = some cs := e
  match i, e' with
  | 0, e' => cases e'; exact ok3 0 (by decide)
  | 1, e' => cases e'; exact ok3 1 (by decide)
  | 2, e' => cases e'; exact ok3 2 (by decide)
  | 3, e' => cases e'; exact ok2 3 (by decide)
  | 4, e' => cases e'; exact ok2 4 (by decide)
theorem initM_left {x0 y0 pl : Int} {w h : Nat} (hw : 0 < w) (hh : 0 < h) (hp : 1 ≤ pl) : (leftM (iniM x0 y0 w h pl) : Int) = pl * (w * h : Nat) := by
  have h0 : 0 < w * h := Nat.mul_pos hw hh
  have e : (iniM x0 y0 w h pl).plane = pl - 1 := by
    show (if (besideAll w h).length = 0 then (-1 : Int) else pl - 1) = _
    rw [if_neg (by rw [besideAll_len]; omega)]
  unfold leftM
  rw [e, if_neg (by omega)]
  have e2 : (iniM x0 y0 w h pl).around.length = w * h := besideAll_len w h
  have e3 : (iniM x0 y0 w h pl).spot = 0 := rfl
  rw [e2, e3, Nat.sub_zero, Int.natCast_add, Int.natCast_mul, Int.toNat_of_nonneg (by omega)]
  have : (pl - 1) * ((w * h : Nat) : Int) + ((w * h : Nat) : Int) = pl * ((w * h : Nat) : Int) := by rw [Int.sub_mul]; omega
  exact this
end K11X
section K11Y
variable {mg : Str → Option Value} {F H F' H' : Hp} {A : LA} {m : Mdl}
theorem LMx.frz (z : LMx mg F H A m) {c : Addr} {o : HO} (hc : H c = some o) (fc : F c = none) (nc : c ∉ A.cells) : LMx mg (upd F c o) H A m := by
  refine z.keep (fun b u e => ?_) (fun b u e => ?_) (fun b hb => ?_) fun b _ u e => e
  · rw [upd_ne (fun h => by rw [h, fc] at e; cases e)]; exact e
  · by_cases h : b = c
    · rw [h, upd_same] at e; cases e; rw [h]; exact hc
    · rw [upd_ne h] at e; exact z.fh _ _ e
  · rw [upd_ne (fun h : b = c => nc (by rw [← h]; exact hb))]; exact z.fr b hb
theorem LMx.beside (z : LMx mg F H A m) {p : Addr} {o : HO} (fp : F p = none) (np : p ∉ A.cells) : LMx mg F (upd H p o) A m :=
  z.keep (Same.refl F) (fun b u e => by rw [upd_ne (fun h => by rw [h, fp] at e; cases e)]; exact z.fh _ _ e) z.fr fun b hb u e => by rw [upd_ne (fun h : b = p => np (by rw [← h]; exact hb))]; exact e
theorem LMx.not_new (z : LMx mg F H A m) {p : Addr} (h : H p = none) : p ∉ A.cells := fun hp => by
  obtain ⟨o, e⟩ := z.dom p hp
  rw [h] at e; cases e
theorem mon_notN : MonR (fun x y H Q => y = .non ∧ Q (.bl (!decide (x = .non))) H) := fun _ _ _ _ _ h ⟨e, q⟩ => ⟨e, h _ _ q⟩
theorem mon_meth {C : Addr} {f : Str} {sp : Sp} {dvs : List V} {E : XK} {ta : TE} {t : TA} (hs : ∀ vs H Q Q', (∀ v H1, Q v H1 → Q' v H1) → sp vs H Q E → sp vs H Q' E) (ha : MonE ta) (ht : MonA t) : MonE (tMeth C f sp dvs E ta t) := fun σ H Q Q' h q =>
  ha _ _ _ _ (fun x H1 ⟨a, dx, fs, e1, e2, e3, q1⟩ => ⟨a, dx, fs, e1, e2, e3, ht _ _ _ _ (fun vs H2 q2 => hs _ _ _ _ h q2) q1⟩) q
theorem numL_go : ∀ (bs : List Int) (x : Int), Bits bs → 0 ≤ x → 0 ≤ bs.foldl (fun f b => 2 * f + b) x ∧ bs.foldl (fun f b => 2 * f + b) x < (x + 1) * 2 ^ bs.length
  | [], x, _, hx => by simp; omega
  | b :: bs, x, hb, hx => by
    have hb0 := hb b (by simp)
    have := numL_go bs (2 * x + b) (fun y hy => hb y (List.mem_cons_of_mem _ hy)) (by rcases hb0 with h | h <;> omega)
    rw [List.foldl_cons, List.length_cons, Int.pow_succ]
    refine ⟨this.1, Int.lt_of_lt_of_le this.2 ?_⟩
    have p : (0 : Int) < 2 ^ bs.length := Int.pow_pos (by decide)
    have : (2 * x + b + 1) * 2 ^ bs.length ≤ ((x + 1) * 2) * 2 ^ bs.length := Int.mul_le_mul_of_nonneg_right (by rcases hb0 with h | h <;> omega) (by omega)
    have e2 : (x + 1) * (2 ^ bs.length * 2) = ((x + 1) * 2) * 2 ^ bs.length := by rw [Int.mul_comm (2 ^ bs.length) 2, Int.mul_assoc]
    rw [e2]; exact this
end K11Y
def Within (v m l r k : Int) : Prop := l * 2 ^ m.toNat ≤ v * 2 ^ k.toNat ∧ (v + 1) * 2 ^ k.toNat ≤ (l + r) * 2 ^ m.toNat
theorem within_low {v l r : Int} {m k : Nat} (hr : r < 131072) (hm : m + 17 ≤ k) : ¬ Within v m l r k := by
  rintro ⟨h1, h2⟩
  rw [Int.toNat_natCast, Int.toNat_natCast] at h1 h2
  have e : (2 : Int) ^ k = 2 ^ (k - m - 17) * 131072 * 2 ^ m := by
    have : k = (k - m - 17) + 17 + m := by omega
    conv => lhs; rw [this, Int.pow_add, Int.pow_add]
    rfl
  have p1 : (0 : Int) < 2 ^ m := Int.pow_pos (by decide)
  have p2 : (0 : Int) < 2 ^ (k - m - 17) := Int.pow_pos (by decide)
  have h3 : 2 ^ k ≤ r * 2 ^ m := by
    have := Int.add_mul v 1 ((2 : Int) ^ k)
    have := Int.add_mul l r ((2 : Int) ^ m)
    omega
  rw [e] at h3
  have h4 := Int.le_of_mul_le_mul_right h3 p1
  omega
theorem within_at {v l r c : Int} {m k : Nat} {e : Nat} (hc : c = 2 ^ e) (hk : k = m + e) : Within v m l r k ↔ (l ≤ v * c ∧ (v + 1) * c ≤ l + r) := by
  have p1 : (0 : Int) < 2 ^ m := Int.pow_pos (by decide)
  unfold Within
  rw [Int.toNat_natCast, Int.toNat_natCast, hk, Int.pow_add, ← hc]
  have a1 : v * (2 ^ m * c) = v * c * 2 ^ m := by rw [Int.mul_comm (2 ^ m) c, Int.mul_assoc]
  have a2 : (v + 1) * (2 ^ m * c) = (v + 1) * c * 2 ^ m := by rw [Int.mul_comm (2 ^ m) c, Int.mul_assoc]
  rw [a1, a2]
  exact ⟨fun ⟨x, y⟩ => ⟨Int.le_of_mul_le_mul_right x p1, Int.le_of_mul_le_mul_right y p1⟩, fun ⟨x, y⟩ => ⟨Int.mul_le_mul_of_nonneg_right x (by omega), Int.mul_le_mul_of_nonneg_right y (by omega)⟩⟩
theorem due_target {l r k : Int} (nd : Node l r k) : ∃ m v : Nat, (m : Int) + 15 ≤ k ∧ v < 2 ^ m ∧ Within v m l r k ∧ (∀ (m' : Nat) (v' : Int), m' < m → ¬ Within v' m' l r k) ∧ (∀ v' : Int, v' < v → ¬ Within v' m l r k) ∧ endOf l r k = fixL m v := by
  obtain ⟨l0, r0, r1, k0, top⟩ := nd
  obtain ⟨n, rfl⟩ : ∃ n : Nat, k = ((n + 16 : Nat) : Int) := ⟨(k - 16).toNat, by omega⟩
  rw [Int.toNat_natCast] at top
  have e16 : (2 : Int) ^ (n + 16) = 2 ^ n * 65536 := by rw [Int.pow_add]; rfl
  have e15 : (2 : Int) ^ (n + 1) = 2 ^ n * 2 := by rw [Int.pow_add]; rfl
  have c16 : ((2 ^ n : Nat) : Int) = 2 ^ n := by simp
  have c15 : ((2 ^ (n + 1) : Nat) : Int) = 2 ^ (n + 1) := by simp
  have w16 : ∀ v : Int, Within v n l r ((n + 16 : Nat) : Int) ↔ (l ≤ v * 65536 ∧ (v + 1) * 65536 ≤ l + r) := fun v => within_at (e := 16) (by decide) rfl
  have w15 : ∀ v : Int, Within v ((n + 1 : Nat) : Int) l r ((n + 16 : Nat) : Int) ↔ (l ≤ v * 32768 ∧ (v + 1) * 32768 ≤ l + r) := fun v => within_at (e := 15) (by decide) (by omega)
  by_cases h : ((-(-l / 65536)) + 1) * 65536 ≤ l + r
  · refine ⟨n, (-(-l / 65536)).toNat, by omega, ?_, ?_, fun m' v' hm => within_low r1 (by omega), fun v' hv => ?_, ?_⟩
    · refine Int.ofNat_lt.mp ?_
      rw [c16]; omega
    · rw [w16]; omega
    · rw [w16]; omega
    · rw [endOf, if_pos h]; congr 1; omega
  · refine ⟨n + 1, (-(-l / 32768)).toNat, by omega, ?_, ?_, fun m' v' hm => ?_, fun v' hv => ?_, ?_⟩
    · refine Int.ofNat_lt.mp ?_
      rw [c15]; omega
    · rw [w15]; omega
    · by_cases hn : m' = n
      · subst hn; rw [w16]; omega
      · exact within_low r1 (by omega)
    · rw [w15]; omega
    · rw [endOf, if_neg h]; congr 1; omega
section K11Z
/-! ### what is told of beginnings, plain -/
def InN (n : Nd) (v : Int) (many : Nat) : Prop := n.l * 2 ^ many ≤ v * 2 ^ n.s ∧ (v + 1) * 2 ^ n.s ≤ (n.l + n.w) * 2 ^ many
theorem two_pos (k : Nat) : (0 : Int) < 2 ^ k := Int.pow_pos (by decide)
theorem le_scale {a b : Int} {c : Nat} : a * 2 ^ c ≤ b * 2 ^ c ↔ a ≤ b := ⟨fun h => Int.le_of_mul_le_mul_right h (two_pos c), fun h => Int.mul_le_mul_of_nonneg_right h (Int.le_of_lt (two_pos c))⟩
theorem holds_in (n : Nd) (v : Int) (many : Nat) : HoldsP n v many ↔ InN n v many := by
  unfold HoldsP InN
  by_cases h : many ≤ n.s
  · obtain ⟨d, e⟩ : ∃ d, n.s = many + d := ⟨n.s - many, by omega⟩
    rw [e, show many - (many + d) = 0 by omega, show many + d - many = d by omega, Int.pow_add]
    have a1 : v * (2 ^ many * 2 ^ d) = v * 2 ^ d * 2 ^ many := by rw [Int.mul_comm (2 ^ many), Int.mul_assoc]
    have a2 : (v + 1) * (2 ^ many * 2 ^ d) = (v + 1) * 2 ^ d * 2 ^ many := by rw [Int.mul_comm (2 ^ many), Int.mul_assoc]
    rw [a1, a2, le_scale, le_scale]
    simp
  · obtain ⟨d, e⟩ : ∃ d, many = n.s + d := ⟨many - n.s, by omega⟩
    rw [e, show n.s + d - n.s = d by omega, show n.s - (n.s + d) = 0 by omega, Int.pow_add]
    have a1 : n.l * (2 ^ n.s * 2 ^ d) = n.l * 2 ^ d * 2 ^ n.s := by rw [Int.mul_comm (2 ^ n.s), Int.mul_assoc]
    have a2 : (n.l + n.w) * (2 ^ n.s * 2 ^ d) = (n.l + n.w) * 2 ^ d * 2 ^ n.s := by rw [Int.mul_comm (2 ^ n.s), Int.mul_assoc]
    rw [a1, a2, le_scale, le_scale]
    simp
theorem child_in (n : Nd) (cs : List Int) (j : Nat) (v : Int) (many : Nat) : InN (childN n cs j) v many ↔ ((n.l + bord n.w cs j) * 2 ^ many ≤ v * 2 ^ n.s ∧ (v + 1) * 2 ^ n.s ≤ (n.l + bord n.w cs (j + 1)) * 2 ^ many) := by
  unfold InN childN
  dsimp only
  generalize kOf (bord n.w cs (j + 1) - bord n.w cs j) = k
  rw [Int.pow_add]
  have a1 : (n.l + bord n.w cs j) * 2 ^ k * 2 ^ many = (n.l + bord n.w cs j) * 2 ^ many * 2 ^ k := by rw [Int.mul_assoc, Int.mul_comm (2 ^ k), Int.mul_assoc]
  have a2 : v * (2 ^ n.s * 2 ^ k) = v * 2 ^ n.s * 2 ^ k := by rw [Int.mul_assoc]
  have a3 : (v + 1) * (2 ^ n.s * 2 ^ k) = (v + 1) * 2 ^ n.s * 2 ^ k := by rw [Int.mul_assoc]
  have a4 : ((n.l + bord n.w cs j) * 2 ^ k + (bord n.w cs (j + 1) - bord n.w cs j) * 2 ^ k) * 2 ^ many = (n.l + bord n.w cs (j + 1)) * 2 ^ many * 2 ^ k := by
    rw [← Int.add_mul, show n.l + bord n.w cs j + (bord n.w cs (j + 1) - bord n.w cs j) = n.l + bord n.w cs (j + 1) by omega, Int.mul_assoc, Int.mul_comm (2 ^ k), Int.mul_assoc]
  rw [a1, a2, a3, a4, le_scale, le_scale]
theorem bord_mono {w : Int} {cs : List Int} (h : CsOk cs) (hw : 0 ≤ w) {i j : Nat} (hij : i ≤ j) : bord w cs i ≤ bord w cs j := by
  have hs := h.sum
  unfold bord
  refine Int.ediv_le_ediv (by omega) (Int.mul_le_mul_of_nonneg_left ?_ hw)
  have e : cs.take j = cs.take i ++ (cs.take j).drop i := by
    have := List.take_append_drop i (cs.take j)
    rw [List.take_take, Nat.min_eq_left hij] at this
    exact this.symm
  rw [e, List.sum_append]
  have := sum_pos ((cs.take j).drop i) fun x hx => h.pos x (List.mem_of_mem_take (List.mem_of_mem_drop hx))
  omega
theorem in_parent {n : Nd} {cs : List Int} {j : Nat} {v : Int} {many : Nat} (nd : NdOk n) (h : CsOk cs) (hc : InN (childN n cs j) v many) : InN n v many := by
  rw [child_in] at hc
  have hw : 0 ≤ n.w := Int.le_trans (by decide) nd.w0
  have b0 := (bord_le h hw j).1
  have b1 := (bord_le h hw (j + 1)).2
  exact ⟨Int.le_trans (le_scale.mpr (by omega)) hc.1, Int.le_trans hc.2 (le_scale.mpr (by omega))⟩
theorem in_uniq {n : Nd} {cs : List Int} {i j : Nat} {v : Int} {many : Nat} (nd : NdOk n) (h : CsOk cs) (hi : InN (childN n cs i) v many) (hj : InN (childN n cs j) v many) : i = j := by
  rw [child_in] at hi hj
  have hw : 0 ≤ n.w := Int.le_trans (by decide) nd.w0
  have p := two_pos n.s
  have key : ∀ i j : Nat, (n.l + bord n.w cs i) * 2 ^ many ≤ v * 2 ^ n.s → (v + 1) * 2 ^ n.s ≤ (n.l + bord n.w cs (j + 1)) * 2 ^ many → i ≤ j := fun i j h1 h2 => by
    refine Nat.le_of_not_lt fun c => ?_
    have m := bord_mono h hw (show j + 1 ≤ i from c)
    have h3 : (n.l + bord n.w cs (j + 1)) * 2 ^ many ≤ (n.l + bord n.w cs i) * 2 ^ many := le_scale.mpr (by omega)
    rw [Int.add_mul] at h2
    omega
  have a := key i j hi.1 hj.2
  have b := key j i hj.1 hi.2
  omega
/-- more bits behind -/
def Ext (v : Int) (m : Nat) (v' : Int) (m' : Nat) : Prop := ∃ d, m' = m + d ∧ v * 2 ^ d ≤ v' ∧ v' + 1 ≤ (v + 1) * 2 ^ d
theorem in_ext {n : Nd} {v v' : Int} {m m' : Nat} (e : Ext v m v' m') (h : InN n v m) : InN n v' m' := by
  obtain ⟨d, rfl, e1, e2⟩ := e
  have s1 := (le_scale (c := d)).mpr h.1
  have s2 := (le_scale (c := d)).mpr h.2
  have t1 := (le_scale (c := n.s)).mpr e1
  have t2 := (le_scale (c := n.s)).mpr e2
  refine ⟨?_, ?_⟩
  · rw [Int.pow_add, ← Int.mul_assoc]
    refine Int.le_trans s1 (Int.le_trans (Int.le_of_eq ?_) t1)
    rw [Int.mul_assoc, Int.mul_comm (2 ^ n.s), Int.mul_assoc]
  · rw [Int.pow_add, ← Int.mul_assoc]
    refine Int.le_trans t2 (Int.le_trans (Int.le_of_eq ?_) s2)
    rw [Int.mul_assoc, Int.mul_comm (2 ^ d), Int.mul_assoc]
theorem numL_app : ∀ (a b : List Int), numL (a ++ b) = b.foldl (fun f x => 2 * f + x) (numL a) := fun a b => by unfold numL; rw [List.foldl_append]
theorem fold_split : ∀ (b : List Int) (x : Int), b.foldl (fun f y => 2 * f + y) x = x * 2 ^ b.length + numL b
  | [], x => by simp [numL]
  | y :: b, x => by
    have e : numL (y :: b) = b.foldl (fun f z => 2 * f + z) (2 * 0 + y) := rfl
    rw [e, List.foldl_cons, fold_split b, fold_split b (2 * 0 + y), List.length_cons, Int.pow_succ]
    have : (2 * x + y) * 2 ^ b.length = x * (2 ^ b.length * 2) + (2 * 0 + y) * 2 ^ b.length := by
      rw [Int.add_mul, Int.mul_comm (2 ^ b.length) 2, ← Int.mul_assoc, Int.mul_comm x 2]
      simp
    rw [this]; omega
theorem ext_app {a b : List Int} (h : Bits b) : Ext (numL a) a.length (numL (a ++ b)) (a ++ b).length := by
  have g := numL_go b 0 h (Int.le_refl 0)
  have e : numL b = b.foldl (fun f x => 2 * f + x) 0 := rfl
  rw [← e] at g
  refine ⟨b.length, List.length_append, ?_, ?_⟩
  · rw [numL_app, fold_split]; omega
  · rw [numL_app, fold_split, Int.add_mul]; omega
/-- where the letters lead -/
def runM (m0 : Mdl) (n0 : Nd) (js : List Nat) : Mdl × Nd := js.foldl (fun mn j => (stepM mn.1 j, childN mn.2 (countsM mn.1) j)) (m0, n0)
theorem runM_snoc (m0 : Mdl) (n0 : Nd) (js : List Nat) (j : Nat) : runM m0 n0 (js ++ [j]) = (stepM (runM m0 n0 js).1 j, childN (runM m0 n0 js).2 (countsM (runM m0 n0 js).1) j) := by
  unfold runM; rw [List.foldl_append]; rfl
variable {C : Mdl → Nd → Nat → Prop} {m0 : Mdl} {n0 : Nd}
structure OkAt (mn : Mdl × Nd) : Prop where
  m : MOk mn.1
  n : NdOk mn.2
theorem path_run (h0 : MOk m0) (hn : NdOk n0) {js : List Nat} {m : Mdl} {n : Nd} (h : Path C m0 n0 js m n) :
    runM m0 n0 js = (m, n) ∧ MOk m ∧ NdOk n ∧ js.length + leftM m = leftM m0 ∧ n.s ≤ n0.s + 6 * js.length ∧ ∀ k j, js[k]? = some j → MOk (runM m0 n0 (js.take k)).1 ∧ NdOk (runM m0 n0 (js.take k)).2 ∧ 0 ≤ (runM m0 n0 (js.take k)).1.plane ∧ j < (countsM (runM m0 n0 (js.take k)).1).length ∧ C (runM m0 n0 (js.take k)).1 (runM m0 n0 (js.take k)).2 j := by
  induction h with
  | nil => exact ⟨rfl, h0, hn, by simp, by simp, fun k j e => by cases e⟩
  | @snoc js m n j _ hp hj hc ih =>
    obtain ⟨e, k1, k2, k3, k5, k4⟩ := ih
    obtain ⟨_, _, hcl, hco⟩ := k1.tab hp
    have hk := isK_le (isK_ex (part_wide hco k2.w0 hj)) (part_wide hco k2.w0 hj)
    refine ⟨by rw [runM_snoc, e], stepM_ok k1 hp (by omega), childN_ok k2 hco hj, ?_, ?_, fun k j' ej => ?_⟩
    · rw [List.length_append]
      have := stepM_left k1 hp j
      simp only [List.length_cons, List.length_nil]
      omega
    · rw [List.length_append]
      show n.s + kOf _ ≤ _
      simp only [List.length_cons, List.length_nil]
      omega
    · by_cases hk : k < js.length
      · rw [List.getElem?_append_left hk] at ej
        rw [List.take_append_of_le_length (by omega)]
        exact k4 k j' ej
      · have hk2 : k = js.length := by
          have := (List.getElem?_eq_some_iff.mp ej).1
          simp at this; omega
        subst hk2
        rw [List.getElem?_append_right (Nat.le_refl _), Nat.sub_self] at ej
        cases ej
        rw [List.take_left, e]
        exact ⟨k1, k2, hp, hj, hc⟩
/-- what holds the end holds it all along -/
theorem path_in (h0 : MOk m0) (hn : NdOk n0) {js : List Nat} {m : Mdl} {n : Nd} (h : Path C m0 n0 js m n) {v : Int} {many : Nat} (hi : InN n v many) : ∀ k, k ≤ js.length → InN (runM m0 n0 (js.take k)).2 v many := by
  induction h with
  | nil => intro k _; rw [List.take_nil]; exact hi
  | @snoc js m n j h hp hj hc ih =>
    obtain ⟨e, k1, k2, _⟩ := path_run h0 hn h
    obtain ⟨_, _, _, hco⟩ := k1.tab hp
    intro k hk
    by_cases hkl : k ≤ js.length
    · rw [List.take_append_of_le_length hkl]
      exact ih (in_parent k2 hco hi) k hkl
    · have : k = (js ++ [j]).length := by rw [List.length_append] at hk ⊢; simp at hk ⊢; omega
      rw [this, List.take_length, runM_snoc, e]
      exact hi
section
variable {js : List Nat} {m : Mdl} {n : Nd} {V : Int} {M : Nat}
/-- told by a beginning: a beginning of the letters -/
theorem told_pre (h0 : MOk m0) (hn : NdOk n0) (P : Path AnyJ m0 n0 js m n) (hpl : m.plane < 0) (hV : InN n V M) {v : Int} {many : Nat} (e : Ext v many V M) {ks : List Nat} {m' : Mdl} {n' : Nd} (T : Path (TellJ v many) m0 n0 ks m' n') : ks.length ≤ js.length ∧ ks = js.take ks.length := by
  induction T with
  | nil => exact ⟨by simp, by simp⟩
  | @snoc ks m' n' j T hp hj hc ih =>
    obtain ⟨i1, i2⟩ := ih
    obtain ⟨eT, t1, t2, _⟩ := path_run h0 hn T
    obtain ⟨eP, p1, p2, _, _, pk⟩ := path_run h0 hn P
    have hlt : ks.length < js.length := by
      refine Nat.lt_of_le_of_ne i1 fun c => ?_
      rw [c, List.take_length] at i2
      rw [i2, eP] at eT
      cases eT
      omega
    obtain ⟨_, _, q3, q4, _⟩ := pk ks.length _ (List.getElem?_eq_getElem hlt)
    obtain ⟨_, _, _, hco⟩ := t1.tab hp
    have c1 : InN (childN n' (countsM m') j) V M := in_ext e ((holds_in _ _ _).mp hc.2.1)
    have c2 := path_in h0 hn P hV (ks.length + 1) hlt
    have etk : js.take (ks.length + 1) = ks ++ [js[ks.length]] := by
      rw [List.take_succ_eq_append_getElem hlt, ← i2]
    rw [etk, runM_snoc, eT] at c2
    have := in_uniq t2 hco c1 c2
    subst this
    refine ⟨by rw [List.length_append]; exact hlt, ?_⟩
    rw [List.length_append]
    exact etk.symm
/-- how many letters are told -/
structure ToldK (m0 : Mdl) (n0 : Nd) (js : List Nat) (v : Int) (many : Nat) (ks : List Nat) (m' : Mdl) : Prop where
  le : ks.length ≤ js.length
  eq : ks = js.take ks.length
  run : m' = (runM m0 n0 (js.take ks.length)).1
  all : ∀ k j, k < ks.length → js[k]? = some j → InN (childN (runM m0 n0 (js.take k)).2 (countsM (runM m0 n0 (js.take k)).1) j) v many
  stop : ∀ j, js[ks.length]? = some j → ¬ InN (childN (runM m0 n0 (js.take ks.length)).2 (countsM (runM m0 n0 (js.take ks.length)).1) j) v many
  over : m'.plane < 0 ↔ ks.length = js.length
theorem toldK (h0 : MOk m0) (hn : NdOk n0) (P : Path AnyJ m0 n0 js m n) (hpl : m.plane < 0) (hV : InN n V M) {v : Int} {many : Nat} (e : Ext v many V M) {ks : List Nat} {m' : Mdl} {n' : Nd} (T : Path (TellJ v many) m0 n0 ks m' n') (hend : m'.plane < 0 ∨ (0 ≤ m'.plane ∧ NoneJ v many n' (countsM m'))) : ToldK m0 n0 js v many ks m' := by
  obtain ⟨le, eq⟩ := told_pre h0 hn P hpl hV e T
  obtain ⟨eT, t1, t2, _, _, tk⟩ := path_run h0 hn T
  obtain ⟨eP, p1, p2, _, _, pk⟩ := path_run h0 hn P
  have run : (m', n') = runM m0 n0 (js.take ks.length) := by rw [← eq, eT]
  have tkk : ∀ k, k ≤ ks.length → ks.take k = js.take k := fun k hk => by
    conv => lhs; rw [eq]
    rw [List.take_take, Nat.min_eq_left hk]
  refine ⟨le, eq, by rw [← run], fun k j hk ej => ?_, fun j ej hin => ?_, ?_⟩
  · have ek : ks[k]? = some j := by
      rw [eq, List.getElem?_take, if_pos hk]; exact ej
    obtain ⟨_, _, _, _, c⟩ := tk k j ek
    rw [tkk k (by omega)] at c
    exact (holds_in _ _ _).mp c.2.1
  · obtain ⟨q1, q2, q3, q4, _⟩ := pk ks.length j ej
    rw [← run] at hin q3 q4
    rcases hend with h | ⟨_, h⟩
    · dsimp only at q3; omega
    · exact h j q4 ((holds_in _ _ _).mpr hin)
  · constructor
    · intro h
      refine Nat.le_antisymm le (Nat.le_of_not_lt fun c => ?_)
      obtain ⟨_, _, q3, _⟩ := pk ks.length _ (List.getElem?_eq_getElem c)
      rw [← run] at q3
      dsimp only at q3; omega
    · intro h
      rw [h, List.take_length, eP] at run
      cases run
      exact hpl
theorem toldK_mono {v v' : Int} {many many' : Nat} {ks ks' : List Nat} {m' m'' : Mdl} (e : Ext v many v' many') (a : ToldK m0 n0 js v many ks m') (b : ToldK m0 n0 js v' many' ks' m'') : ks.length ≤ ks'.length := by
  refine Nat.le_of_not_lt fun c => ?_
  have hl : ks'.length < js.length := Nat.lt_of_lt_of_le c a.le
  exact b.stop _ (List.getElem?_eq_getElem hl) (in_ext e (a.all _ _ c (List.getElem?_eq_getElem hl)))
/-- all is told just where the end's node holds the bits -/
theorem toldK_all (h0 : MOk m0) (hn : NdOk n0) (P : Path AnyJ m0 n0 js m n) (hj : js ≠ []) {v : Int} {many : Nat} {ks : List Nat} {m' : Mdl} (a : ToldK m0 n0 js v many ks m') : ks.length = js.length ↔ InN n v many := by
  obtain ⟨eP, _⟩ := path_run h0 hn P
  constructor
  · intro h
    obtain ⟨k, hk⟩ : ∃ k, js.length = k + 1 := ⟨js.length - 1, by have := List.length_pos_iff.mpr hj; omega⟩
    have hlt : k < js.length := by omega
    have := a.all k _ (by omega) (List.getElem?_eq_getElem hlt)
    have e2 : js = js.take k ++ [js[k]] := by rw [← List.take_succ_eq_append_getElem hlt, ← hk, List.take_length]
    rw [e2, runM_snoc] at eP
    have e3 := congrArg Prod.snd eP
    dsimp only at e3
    rw [e3] at this
    exact this
  · intro hi
    refine Nat.le_antisymm a.le (Nat.le_of_not_lt fun c => ?_)
    have c2 := path_in h0 hn P hi (ks.length + 1) c
    rw [List.take_succ_eq_append_getElem c, runM_snoc] at c2
    exact a.stop _ (List.getElem?_eq_getElem c) c2
end
/-- the end's bits: in the node, none shorter -/
theorem end_bits {n : Nd} (h : NdOk n) : Bits (endOf n.l n.w n.s) ∧ InN n (numL (endOf n.l n.w n.s)) (endOf n.l n.w n.s).length ∧ (∀ (m' : Nat) (v' : Int), m' < (endOf n.l n.w n.s).length → ¬ InN n v' m') ∧ (endOf n.l n.w n.s).length ≤ n.s := by
  obtain ⟨m, v, h1, h2, h3, h4, _, h6⟩ := due_target (l := n.l) (r := n.w) (k := (n.s : Nat)) ⟨h.l0, h.w0, h.w1, by have := h.s0; omega, by rw [Int.toNat_natCast]; exact h.top⟩
  rw [h6, fixL_len, num_fixL m v h2]
  have wi : ∀ (v : Int) (m : Nat), Within v m n.l n.w (n.s : Nat) ↔ InN n v m := fun v m => by
    unfold Within InN
    rw [Int.toNat_natCast, Int.toNat_natCast]
  exact ⟨fixL_bit m v, (wi _ _).mp h3, fun m' v' hm hi => h4 m' v' hm ((wi _ _).mpr hi), by omega⟩
end K11Z
theorem tab3 {K : PySem.W.Frag} {mg : Str → Option Value} {H1 : Hp} {P : Addr → Hp → Prop} {E : XK} (h : ∀ x dx l H2, Same H1 H2 → H1 x = none → H1 l = none → x ≠ l → TabO mg H2 x dx l [1, 1, 1] → P x H2) :
    ∀ x dx, H1 x = none → H1 dx = none → dx ≠ x → sp_Table___init__ K mg (.ref x :: ([.int 3] ++ [])) (upd (upd H1 dx (.own x)) x (.ins (exA mg "Table") dx [])) (fun v H2 => v = .non ∧ P x H2) E :=
  mk_tab (K := K) (m := 3) (fun vs H Q E ⟨p, dx, e, hp, q⟩ => by subst e; exact ⟨rfl, p, dx, 3, rfl, hp, .inl ⟨.inr rfl, q⟩⟩) h
theorem tab2 {K : PySem.W.Frag} {mg : Str → Option Value} {H1 : Hp} {P : Addr → Hp → Prop} {E : XK} (h : ∀ x dx l H2, Same H1 H2 → H1 x = none → H1 l = none → x ≠ l → TabO mg H2 x dx l [1, 1] → P x H2) :
    ∀ x dx, H1 x = none → H1 dx = none → dx ≠ x → sp_Table___init__ K mg (.ref x :: ([.int 2] ++ [])) (upd (upd H1 dx (.own x)) x (.ins (exA mg "Table") dx [])) (fun v H2 => v = .non ∧ P x H2) E :=
  mk_tab (K := K) (m := 2) (fun vs H Q E ⟨p, dx, e, hp, q⟩ => by subst e; exact ⟨rfl, p, dx, 2, rfl, hp, .inl ⟨.inl rfl, q⟩⟩) h
theorem srcNew {F H Fa Ha : Hp} {p q : Addr} {o : HO} (s : Src Fa Ha p) (st : Stp (S1 p) F H Fa Ha) (hq : Ha q = none) : ∃ Fb, Src Fb (upd Ha q o) p ∧ Stp (S1 p) F H Fb (upd Ha q o) ∧ Same Fa Fb ∧ Fb q = some o := ⟨_, s.new hq, st.trans (Stp.new s.1 hq), (Stp.new (S := S0) s.1 hq).ff, upd_same⟩
section RowS
structure RowZ (K : PySem.W.Frag) (mg : Str → Option Value) (F H Fc H' : Hp) (p rg dr la : Addr) (B : LA) (m : Mdl) (n : Nd) (js : List Nat) : Prop where
  s : Src Fc H' p
  st : Stp (S1 p) F H Fc H'
  z : LMx mg Fc H' B m
  np : p ∉ B.cells
  nl : la ∉ B.cells
  nr : rg ∉ B.cells
  nw : ∀ c ∈ B.cells, H c = none
  kr : ∃ nq, H' rg = some (.ins (exA mg "Ranger") dr [("_node", .ref nq)]) ∧ SqNd K Fc nq n
  kl : H' la = some (.lst (js.map fun (j : Nat) => V.int (j : Int)))
  fl : Fc la = none
  fr : Fc rg = none
  hl : H la = none
  hr : H rg = none
  d1 : la ≠ p
  d2 : rg ≠ p
  d3 : rg ≠ la
variable {K : PySem.W.Frag} {mg : Str → Option Value} {F H Fc H' H2 F2 : Hp} {p rg dr la : Addr} {B B2 : LA} {m m2 : Mdl} {n n2 : Nd} {js : List Nat}
theorem RowZ.same (r : RowZ K mg F H Fc H' p rg dr la B m n js) (e : Same H' H2) : RowZ K mg F H Fc H2 p rg dr la B m n js :=
  ⟨r.s.of e, r.st.trans (Stp.ofSame r.z.fh e), r.z.of e, r.np, r.nl, r.nr, r.nw, let ⟨q, a, b⟩ := r.kr; ⟨q, e _ _ a, b⟩, e _ _ r.kl, r.fl, r.fr, r.hl, r.hr, r.d1, r.d2, r.d3⟩
theorem RowZ.draw (r : RowZ K mg F H Fc H' p rg dr la B m n js) (s : Src Fc H2 p) (t : Stp (S1 p) Fc H' Fc H2) : RowZ K mg F H Fc H2 p rg dr la B m n js :=
  ⟨s, r.st.trans t, r.z.step t fun b hb (e : b = p) => r.np (by rw [← e]; exact hb), r.np, r.nl, r.nr, r.nw, let ⟨q, a, b⟩ := r.kr; ⟨q, t.keep _ _ r.d2 a, b⟩, t.keep _ _ r.d1 r.kl, r.fl, r.fr, r.hl, r.hr, r.d1, r.d2, r.d3⟩
/-- the ranger goes on -/
theorem RowZ.take (r : RowZ K mg F H Fc H' p rg dr la B m n js) {q : Addr} (e : Same H' H2) (hq : H' q = none) (eq : H2 q = some (.tup [.int n2.l, .int n2.w, .int (n2.s : Nat)])) :
    RowZ K mg F H (upd Fc q (.tup [.int n2.l, .int n2.w, .int (n2.s : Nat)])) (upd H2 rg (.ins (exA mg "Ranger") dr [("_node", .ref q)])) p rg dr la B m n2 js := by
  have r2 := r.same e
  have hHq : H q = none := none_of' r.st hq
  have hFq : Fc q = none := r.z.fh.free hq
  have ne : ∀ {b o}, H' b = some o → b ≠ q := fun h => ne_of_none h hq
  obtain ⟨nq, hrg, _⟩ := r.kr
  have nrq : rg ≠ q := ne hrg
  have nlq : la ≠ q := ne r.kl
  have z3 := (r2.z.frz eq hFq (r.z.not_new hq))
  have frg : (upd Fc q (.tup [.int n2.l, .int n2.w, .int (n2.s : Nat)])) rg = none := by rw [upd_ne nrq]; exact r.fr
  have st3 := r2.st.freeze hHq eq hFq
  have stw : Stp (fun c => c = rg) (upd Fc q (.tup [.int n2.l, .int n2.w, .int (n2.s : Nat)])) H2 (upd Fc q (.tup [.int n2.l, .int n2.w, .int (n2.s : Nat)])) (upd H2 rg (.ins (exA mg "Ranger") dr [("_node", .ref q)])) := Stp.wr z3.fh rfl frg
  obtain ⟨a, b, x, y, ep, w⟩ := r2.s
  have npq : p ≠ q := by
    obtain ⟨_, _, x', y', ep', _⟩ := r.s
    exact ne ep'
  refine ⟨⟨stw.fh, by rw [upd_ne npq]; exact b, x, y, by rw [upd_ne r.d2.symm]; exact ep, w⟩, st3.transN stw fun c hc => .inr (by rw [hc]; exact r.hr), z3.beside frg r.nr, r.np, r.nl, r.nr, r.nw, ⟨q, upd_same, SqT.of upd_same⟩, by rw [upd_ne r.d3.symm]; exact r2.kl, by rw [upd_ne nlq]; exact r.fl, frg, r.hl, r.hr, r.d1, r.d2, r.d3⟩
/-- the model goes on -/
theorem RowZ.step (r : RowZ K mg F H Fc H' p rg dr la B m n js) (st : Stp (fun c => c ∈ B.cells) Fc H' F2 H2) (z : LMx mg F2 H2 B2 m2) (c2 : ∀ c ∈ B2.cells, c ∈ B.cells ∨ H' c = none) : RowZ K mg F H F2 H2 p rg dr la B2 m2 n js := by
  have out : ∀ {b o}, H' b = some o → b ∉ B.cells → b ∉ B2.cells := fun e nb h => by
    rcases c2 _ h with h | h
    · exact nb h
    · rw [e] at h; cases h
  obtain ⟨nq, hrg, hn⟩ := r.kr
  have hp := r.s.2.2
  obtain ⟨x, y, ep, w⟩ := hp
  refine ⟨r.s.step st r.np, r.st.transN st fun c hc => .inr (r.nw c hc), z, out ep r.np, out r.kl r.nl, out hrg r.nr, fun c hc => ?_, ⟨nq, st.keep _ _ r.nr hrg, seqT' st.ff hn⟩, st.keep _ _ r.nl r.kl, by rw [st.fo _ _ r.kl]; exact r.fl, by rw [st.fo _ _ hrg]; exact r.fr, r.hl, r.hr, r.d1, r.d2, r.d3⟩
  rcases c2 c hc with h | h
  · exact r.nw c h
  · exact none_of' r.st h
theorem RowZ.app (r : RowZ K mg F H Fc H' p rg dr la B m n js) (j : Nat) : RowZ K mg F H Fc (upd H' la (.lst ((js ++ [j]).map fun (j : Nat) => V.int (j : Int)))) p rg dr la B m n (js ++ [j]) := by
  have stw : Stp (fun c => c = la) Fc H' Fc (upd H' la (.lst ((js ++ [j]).map fun (j : Nat) => V.int (j : Int)))) := Stp.wr r.z.fh rfl r.fl
  obtain ⟨nq, hrg, hn⟩ := r.kr
  obtain ⟨a, b, x, y, ep, w⟩ := r.s
  exact ⟨⟨stw.fh, b, x, y, by rw [upd_ne r.d1.symm]; exact ep, w⟩, r.st.transN stw fun c hc => .inr (by rw [hc]; exact r.hl), r.z.beside r.fl r.nl, r.np, r.nl, r.nr, r.nw, ⟨nq, by rw [upd_ne r.d3]; exact hrg, hn⟩, upd_same, r.fl, r.fr, r.hl, r.hr, r.d1, r.d2, r.d3⟩
end RowS
section MkLine
theorem mk_line {K : PySem.W.Frag} {mg : Str → Option Value} {F H : Hp} {r : Addr} {x0 y0 pl : Int} {w h : Nat} {P : Addr → Hp → Prop} {E : XK} (hF : Same F H) (hr : F r = some (.tup [.int x0, .int (x0 + (w : Nat)), .int y0, .int (y0 + (h : Nat))])) (hw : 0 < w) (hh : 0 < h) (hb : w * h ≤ 1000) (p0 : 1 ≤ pl) (p1 : pl ≤ 20)
    (hP : ∀ (A : LA) F1 H1, Stp S0 F H F1 H1 → LMx mg F1 H1 A (iniM x0 y0 w h pl) → (∀ c ∈ A.cells, H c = none) → P A.a H1) :
    ∀ x dx, H x = none → H dx = none → dx ≠ x → sp_LineModel___init__ K mg (.ref x :: ([.ref r, .int pl] ++ [])) (upd (upd H dx (.own x)) x (.ins (exA mg "LineModel") dx [])) (fun v H2 => v = .non ∧ P x H2) E := fun xa xd hxa hxd ndx => by
  have hxa' : upd H xd (.own xa) xa = none := by rw [upd_ne ndx.symm]; exact hxa
  have stm : Stp S0 F H F (upd (upd H xd (.own xa)) xa (.ins (exA mg "LineModel") xd [])) := (Stp.cell hF hxd).trans (Stp.cell (Stp.cell (S := S0) hF hxd).fh hxa')
  refine ⟨rfl, F, xa, xd, r, x0, y0, w, h, pl, rfl, stm.fh, hr, upd_same, hF.free hxa, hw, hh, hb, p0, p1, fun F1 H1 A hA st1 lm cc => ⟨rfl, ?_⟩⟩
  subst hA
  refine hP A F1 H1 (stm.transN st1 fun c hc => .inr (by rw [hc]; exact hxa)) lm fun c hc => ?_
  rcases cc c hc with e | e
  · rw [e]; exact hxa
  · exact none_of' stm e
theorem nats_ints (js : List Nat) : (js.map fun (j : Nat) => V.int (j : Int)) = (js.map fun (j : Nat) => (j : Int)).map V.int := by rw [List.map_map]; rfl
theorem ext_refl (v : Int) (m : Nat) : Ext v m v m := ⟨0, rfl, by simp, by simp⟩
theorem s_neBl {a b : Bool} {H : Hp} {Q : VK} (e : a = b) (q : Q (.bl false) H) : rNe (.bl a) (.bl b) H Q := ⟨rfl, by subst e; simpa using q⟩
end MkLine
section
variable {P : Program} {w : World} {K : PySem.W.Frag} {mg : Str → Option Value} {base : Heap}
abbrev s_is_bit : Stmt := topS 7
theorem sc_is_bit : FnScope ["thing"] ["thing"] (defScope s_is_bit) := ⟨rfl, rfl, rfl, by decide +kernel, rfl, by decide +kernel, by decide +kernel⟩
def Ok_is_bit (P : Program) (w : World) (K : PySem.W.Frag) (mg : Str → Option Value) (base : Heap) : Prop := ∃ fA fd, Fn P w K mg base (L2.CX P w) 1 "is_bit" s_is_bit fA fd ["thing"] (sp_is_bit K mg)
theorem okx_is_bit (Z : Zs K mg) {fA : Addr} {fd : FuncData} (F : Fun K "is_bit" "is_bit" s_is_bit fA fd) (m : mg "is_bit" = some (.ref fA))  : Fn P w K mg base (L2.CX P w) 1 "is_bit" s_is_bit fA fd ["thing"] (sp_is_bit K mg) := by
  refine ⟨F.okX sc_is_bit (fun vs H Q E h => h.1) (fun cdv A outer s H vs Q E hr h => ?_), m, F.kp, F.binds fun _ _ _ _ _ _ us hl => match us, hl with | [_], _ => rfl, F⟩
  have hu64 := hr.units
  obtain ⟨hlen, h⟩ := h
  refine ⟨_, (pss_one (ps_ret (pe_and (pe_callB (c_isi K rfl) (by rfl) Z.z_isinstance (by decide +kernel) (pa_cons (pv 0) (pa_cons (pe_bltn (v := .ty "int") (by rfl) Z.z_int (by decide +kernel) rfl) pa_nil))) (pe_and (pe_not (pe_callB (c_isi K rfl) (by rfl) Z.z_isinstance (by decide +kernel) (pa_cons (pv 0) (pa_cons (pe_bltn (v := .ty "bool") (by rfl) Z.z_bool (by decide +kernel) rfl) pa_nil)))) (pe_one (pe_chain op_le op_le pe_int (pv 0) pe_int)))))), ?_⟩
  obtain ⟨x, rfl, ht, q⟩ := h
  cases ht with
  | int b =>
    walk_at "r"
    refine s_isi (b := true) (.base (.int b)) (by decide +kernel) ?_
    walk_at "r"
    refine s_isi (b := false) (.base (.int b)) (by decide +kernel) ?_
    walk_at "r"
    refine ifd (fun h => ?_) (fun h => ?_)
    · walk_at "r"
      have e : goodV (.int b) = decide (b ≤ 1) := by unfold goodV; simp [h]
      rw [e] at q
      exact q
    · have e : goodV (.int b) = false := by unfold goodV; simp [h]
      rw [e] at q
      exact q
  | non =>
    walk_at "r"
    refine s_isi (b := false) (.base .non) (by decide +kernel) ?_
    walk_at "r"
    exact q
  | str s =>
    walk_at "r"
    refine s_isi (b := false) (.base (.str s)) (by decide +kernel) ?_
    walk_at "r"
    exact q
  | lst ha =>
    walk_at "r"
    refine s_isi (b := false) (.base (.lst ha)) (by decide +kernel) ?_
    walk_at "r"
    exact q
abbrev s_check_bits : Stmt := topS 8
theorem sc_check_bits : FnScope ["bits", "bit"] ["bits"] (defScope s_check_bits) := ⟨rfl, rfl, rfl, by decide +kernel, rfl, by decide +kernel, by decide +kernel⟩
def Ok_check_bits (P : Program) (w : World) (K : PySem.W.Frag) (mg : Str → Option Value) (base : Heap) : Prop := ∃ fA fd, Fn P w K mg base (L2.CX P w) 2 "check_bits" s_check_bits fA fd ["bits"] (sp_check_bits K mg)
theorem okx_check_bits (Z : Zs K mg) {fA : Addr} {fd : FuncData} (F : Fun K "check_bits" "check_bits" s_check_bits fA fd) (m : mg "check_bits" = some (.ref fA)) (C_is_bit : Ok_is_bit P w K mg base) : Fn P w K mg base (L2.CX P w) 2 "check_bits" s_check_bits fA fd ["bits"] (sp_check_bits K mg) := by
  obtain ⟨_, _, C_is_bit⟩ := C_is_bit
  refine ⟨F.okX sc_check_bits (fun vs H Q E h => h.1) (fun cdv A outer s H vs Q E hr h => ?_), m, F.kp, F.binds fun _ _ _ _ _ _ us hl => match us, hl with | [_], _ => rfl, F⟩
  have hu64 := hr.units
  obtain ⟨hlen, h⟩ := h
  refine ⟨_, (pss_one (ps_for (passes_of rfl) rfl (pi_list (pv 0)) (pg_name (i := 1) sc_check_bits.nd rfl (Or.inl rfl))
      (pss_one (ps_if (pt_not (pt_val (pe_call C_is_bit.G (hr.mono (by decide)) rfl C_is_bit.m C_is_bit.kp C_is_bit.b .nil passL (pa_cons (pv 1) pa_nil))))
      (pss_one (ps_raise rfl (takes_of rfl rfl rfl rfl) (pmk_own0 PySem.F.excBase_ValueError Z.x_BadBits.x Z.x_BadBits.g Z.x_BadBits.k (raises_own Z.x_BadBits.b Z.x_BadBits.t) rfl)))
      pss_nil)))), ?_⟩
  obtain ⟨a, xs, rfl, hS, ht, hh⟩ := h
  walk_at "r"
  refine ⟨_, rfl, ⟨_, hS⟩, ?_⟩
  refine forL (xs := xs) (fun i σ H' => ∃ v, σ = [some (.ref a), v] ∧ H = H' ∧ ∀ x ∈ xs.take i, goodV x = true) ⟨_, rfl, rfl, by simp⟩ (fun i σ H' _ ⟨_, _, e, _⟩ => e ▸ hS) ?_ ?_
  · rintro i x σ H' hx ⟨v, rfl, rfl, hg⟩
    cases e : goodV x with
    | true =>
      walk_at "r"
      refine ⟨rfl, x, rfl, ht x (List.mem_of_getElem? hx), ?_⟩
      rw [e]
      walk_at "r"
      refine ⟨_, rfl, rfl, fun y hy => ?_⟩
      obtain ⟨hi, hx'⟩ := List.getElem?_eq_some_iff.mp hx
      rw [List.take_succ_eq_append_getElem hi, List.mem_append] at hy
      rcases hy with hy | hy
      · exact hg y hy
      · rw [hx', List.mem_singleton] at hy; rw [hy, e]
    | false =>
      walk_at "r"
      refine ⟨rfl, x, rfl, ht x (List.mem_of_getElem? hx), ?_⟩
      rw [e]
      walk_at "r"
      rcases hh with ⟨z, _⟩ | ⟨_, q⟩
      · rw [List.all_eq_true] at z
        rw [z x (List.mem_of_getElem? hx)] at e
        cases e
      · exact q
  · rintro σ H' ⟨v, rfl, rfl, hg⟩
    rw [List.take_length, ← List.all_eq_true] at hg
    rcases hh with ⟨_, q⟩ | ⟨z, _⟩
    · walk_at "r"
      exact q
    · rw [hg] at z; cases z
abbrev s_number_of : Stmt := topS 9
theorem sc_number_of : FnScope ["bits", "found", "bit"] ["bits"] (defScope s_number_of) := ⟨rfl, rfl, rfl, by decide +kernel, rfl, by decide +kernel, by decide +kernel⟩
def Ok_number_of (P : Program) (w : World) (K : PySem.W.Frag) (mg : Str → Option Value) (base : Heap) : Prop := ∃ fA fd, Fn P w K mg base (L2.CX P w) 1 "number_of" s_number_of fA fd ["bits"] (sp_number_of K mg)
theorem okx_number_of (Z : Zs K mg) {fA : Addr} {fd : FuncData} (F : Fun K "number_of" "number_of" s_number_of fA fd) (m : mg "number_of" = some (.ref fA))  : Fn P w K mg base (L2.CX P w) 1 "number_of" s_number_of fA fd ["bits"] (sp_number_of K mg) := by
  refine ⟨F.okX sc_number_of (fun vs H Q E h => h.1) (fun cdv A outer s H vs Q E hr h => ?_), m, F.kp, F.binds fun _ _ _ _ _ _ us hl => match us, hl with | [_], _ => rfl, F⟩
  have hu64 := hr.units
  obtain ⟨hlen, h⟩ := h
  refine ⟨_, (pss_cons (ps_set (i := 1) sc_number_of.nd rfl (Or.inl rfl) pe_int)
    (pss_cons (ps_for (passes_of rfl) rfl (pi_list (pv 0)) (pg_name (i := 2) sc_number_of.nd rfl (Or.inl rfl))
      (pss_one (ps_set (i := 1) sc_number_of.nd rfl (Or.inl rfl) (pe_op op_add (pe_op op_mul pe_int (pv 1)) (pv 2)))))
    (pss_one (ps_ret (pv 1))))), ?_⟩
  obtain ⟨a, bs, rfl, hS, q⟩ := h
  walk_at "r"
  refine ⟨_, rfl, ⟨_, hS⟩, ?_⟩
  refine forL (xs := bs.map V.int) (fun i σ H' => ∃ v, σ = [some (.ref a), some (.int (numL (bs.take i))), v] ∧ H = H') ⟨_, rfl, rfl⟩ (fun i σ H' _ ⟨_, _, e⟩ => e ▸ hS) ?_ ?_
  · rintro i x σ H' hx ⟨v, rfl, rfl⟩
    rw [List.getElem?_map] at hx
    cases z : bs[i]? with
    | none => rw [z] at hx; cases hx
    | some b =>
      rw [z] at hx
      cases hx
      have hi : i < bs.length := (List.getElem?_eq_some_iff.mp z).1
      have et : bs.take (i + 1) = bs.take i ++ [b] := by
        rw [List.take_succ_eq_append_getElem hi]
        rw [List.getElem?_eq_getElem hi] at z
        rw [Option.some.inj z]
      have hv : 2 * numL (bs.take i) + b = numL (bs.take (i + 1)) := by rw [et, numL_snoc]
      walk_at "r"
      rw [hv]
      exact ⟨_, rfl, rfl⟩
  · rintro σ H' ⟨v, rfl, rfl⟩
    rw [List.length_map, List.take_length]
    walk_at "r"
    exact q
abbrev s_fixed : Stmt := topS 10
theorem sc_fixed : FnScope ["n", "w", "digit"] ["n", "w"] (defScope s_fixed) := ⟨rfl, rfl, rfl, by decide +kernel, rfl, by decide +kernel, by decide +kernel⟩
def Ok_fixed (P : Program) (w : World) (K : PySem.W.Frag) (mg : Str → Option Value) (base : Heap) : Prop := ∃ fA fd, Fn P w K mg base (L2.CX P w) 1 "fixed" s_fixed fA fd ["n", "w"] (sp_fixed K mg)
theorem okx_fixed (Z : Zs K mg) {fA : Addr} {fd : FuncData} (F : Fun K "fixed" "fixed" s_fixed fA fd) (m : mg "fixed" = some (.ref fA))  : Fn P w K mg base (L2.CX P w) 1 "fixed" s_fixed fA fd ["n", "w"] (sp_fixed K mg) := by
  refine ⟨F.okX sc_fixed (fun vs H Q E h => h.1) (fun cdv A outer s H vs Q E hr h => ?_), m, F.kp, F.binds fun _ _ _ _ _ _ us hl => match us, hl with | [_, _], _ => rfl, F⟩
  have hu64 := hr.units
  obtain ⟨hlen, h⟩ := h
  refine ⟨_, (pss_cons (ps_if (PW.pt (pw_or (pt_cmpR op_lt (pv 0) pe_int (nomark _)) (pw_or (pt_cmpR op_lt (pv 1) pe_int (nomark _)) (pw_or1 (pt_cmpR op_gt (pe_bits (pv 0)) (pv 1) (nomark _))))))
      (pss_one (ps_raise rfl (takes_of rfl rfl rfl rfl) (pmk_own0 PySem.F.excBase_ValueError Z.x_Outside.x Z.x_Outside.g Z.x_Outside.k (raises_own Z.x_Outside.b Z.x_Outside.t) rfl)))
      pss_nil)
    (pss_cons (ps_if (pt_cmpR op_eq (pv 1) pe_int (nomark _))
      (pss_one (ps_ret (pe_lst pa_nil)))
      pss_nil)
    (pss_one (ps_ret (pe_lc (own := [("digit", 2)]) (g := gName 2) (tt := tYes) (by rfl) sc_fixed.nd (pi_str (pe_bm PySem.F.plainAttrs_str PySem.F.slot_str_zfill PySem.F.type_str_zfill mt_zfill (pe_joined1 (pe_fmtB (pv 0))) (pa_cons (pv 1) pa_nil))) (blkOk_by (own := [("digit", 2)]) (N := ["n", "w", "digit"]) (sc := defScope s_fixed) (by decide +kernel)) (fun _ _ _ _ _ => (pg_name (i := 2) sc_fixed.nd rfl (Or.inl rfl))) (fun _ _ _ _ _ => pts_nil) (fun _ _ _ _ _ => (pe_callTy call_int_str (by rfl) Z.z_int (by decide +kernel) (pa_cons (pv 2) pa_nil)))))))), ?_⟩
  obtain ⟨n, w, rfl, hn, hw, hw2, hlt, k⟩ := h
  walk_at "r"
  refine ifd (fun h => absurd h (by omega)) (fun _ => ?_)
  walk_at "r"
  refine ifd (fun h => absurd h (by omega)) (fun _ => ?_)
  walk_at "r"
  have hb := (intBits_le (w := w.toNat) hn).mpr hlt
  refine ifd (fun h => absurd h (by omega)) (fun _ => ?_)
  walk_at "r"
  refine ifd (fun h => ?_) (fun h => ?_)
  · walk_at "r"
    subst h
    exact ⟨sz (by simp), fun p hp => k p _ (Stp.new (S := S0) (Same.refl H) hp).same hp upd_same⟩
  · walk_at "r"
    obtain ⟨w', rfl⟩ : ∃ w' : Nat, w = ((w' + 1 : Nat) : Int) := ⟨w.toNat - 1, by omega⟩
    rw [Int.toNat_natCast] at hlt k
    have en : n.natAbs = n.toNat := by omega
    refine ⟨hn, Nat.le_trans (bits_le (n := n.natAbs) (by rw [en]; exact hlt)) (by omega), ?_⟩
    refine ⟨rfl, ?_⟩
    walk_at "r"
    refine ⟨_, _, rfl, rfl, pad_ok (by omega), ?_⟩
    refine ⟨_, rfl, ?_⟩
    have hz := zfill_bin hlt
    rw [show n.toNat = n.natAbs by omega] at hz
    have hs : (Txt.zfill (binText n.natAbs) ((w' + 1 : Nat) : Int)).cps.size = w' + 1 := by
      rw [← Array.length_toList, hz, List.length_map, fixL_len]
    refine lcW walk_str S0 (Same.refl H) (fun _ z => z.elim) (fun _ _ _ => trivial) (fun i acc F1 H1 => acc = (bitsV (w' + 1) n.toNat).take i) (fun _ _ _ _ _ _ _ _ _ r => r) rfl ?_ ?_
    · rintro i x acc d F1 H1 H2 hi ⟨rfl, c, hc, rfl⟩ hd nS st f0 e hl r
      walk_at "r"
      have hc2 : ((fixL (w' + 1) n.natAbs).map code)[i]? = some c := by rw [← hz]; simpa using hc
      rw [List.getElem?_map] at hc2
      cases hb2 : (fixL (w' + 1) n.natAbs)[i]? with
      | none => rw [hb2] at hc2; cases hc2
      | some b =>
        rw [hb2] at hc2
        have ec : code b = c := Option.some.inj hc2
        subst ec
        refine ⟨_, _, rfl, text_bit (fixL_bit _ _ b (List.mem_of_getElem? hb2)), (by show 1 ≤ 640; decide), ?_⟩
        refine lc_end hd nS st f0 e hl (by rw [hs] at hi; omega) (.rfl' st.fh) ?_
        have hi2 : i < (bitsV (w' + 1) n.toNat).length := by simp [bitsV, fixL_len]; rw [hs] at hi; exact hi
        rw [r, List.take_succ_eq_append_getElem hi2]
        congr 2
        have q2 : (bitsV (w' + 1) n.toNat)[i]? = some (V.int b) := by rw [bitsV, List.getElem?_map, ← en, hb2]; rfl
        rw [List.getElem?_eq_getElem hi2] at q2
        exact (Option.some.inj q2).symm
    · intro d acc F0 F1 H1 st hd f0 ef st1 hl r
      refine k d H1 st.same hd ?_
      rw [ef] at st1
      rw [st1.fh _ _ upd_same, r, hs, List.take_of_length_le (by simp [bitsV, fixL_len])]
abbrev s_next_node : Stmt := topS 16
theorem sc_next_node : FnScope ["node", "counts", "j", "left", "width", "scale", "total", "before", "low", "high"] ["node", "counts", "j"] (defScope s_next_node) := ⟨rfl, rfl, rfl, by decide +kernel, rfl, by decide +kernel, by decide +kernel⟩
def Ok_next_node (P : Program) (w : World) (K : PySem.W.Frag) (mg : Str → Option Value) (base : Heap) : Prop := ∃ fA fd, Fn P w K mg base (L2.CX P w) 1 "next_node" s_next_node fA fd ["node", "counts", "j"] (sp_next_node K mg)
theorem okx_next_node (Z : Zs K mg) {fA : Addr} {fd : FuncData} (F : Fun K "next_node" "next_node" s_next_node fA fd) (m : mg "next_node" = some (.ref fA))  : Fn P w K mg base (L2.CX P w) 1 "next_node" s_next_node fA fd ["node", "counts", "j"] (sp_next_node K mg) := by
  refine ⟨F.okX sc_next_node (fun vs H Q E h => h.1) (fun cdv A outer s H vs Q E hr h => ?_), m, F.kp, F.binds fun _ _ _ _ _ _ us hl => match us, hl with | [_, _, _], _ => rfl, F⟩
  have hu64 := hr.units
  obtain ⟨hlen, h⟩ := h
  refine ⟨_, (pss_cons (ps_if (pt_not (pt_chain op_le op_lt pe_int (pv 2) (pe_callB (c_len K rfl) (by rfl) Z.z_len (by decide +kernel) (pa_cons (pv 1) pa_nil))))
      (pss_one (ps_raise rfl (takes_of rfl rfl rfl rfl) (pmk_own0 PySem.F.excBase_ValueError Z.x_Outside.x Z.x_Outside.g Z.x_Outside.k (raises_own Z.x_Outside.b Z.x_Outside.t) rfl)))
      pss_nil)
    (pss_cons (ps_asg (pv 0) (pg_tup rfl (pgs_cons (pg_name (i := 3) sc_next_node.nd rfl (Or.inl rfl)) (pgs_cons (pg_name (i := 4) sc_next_node.nd rfl (Or.inl rfl)) (pgs_cons (pg_name (i := 5) sc_next_node.nd rfl (Or.inl rfl)) pgs_nil)))))
    (pss_cons (ps_par (i := 6) (j := 7) (by rfl) sc_next_node.nd rfl rfl (by decide) rfl rfl (pa_cons (pe_callB (c_sumN K rfl rfl) (by rfl) Z.z_sum (by decide +kernel) (pa_cons (pv 1) pa_nil)) (pa_cons (pe_callB (c_sumN K rfl rfl) (by rfl) Z.z_sum (by decide +kernel) (pa_cons (pe_slice ((l_list K rfl).or (sl_tupK K rfl)) (pv 1) po_none (po_some (pv 2))) pa_nil)) pa_nil)) (by rfl))
    (pss_cons (ps_set (i := 8) sc_next_node.nd rfl (Or.inl rfl) (pe_op op_fdiv (pe_op op_mul (pv 4) (pv 7)) (pv 6)))
    (pss_cons (ps_set (i := 9) sc_next_node.nd rfl (Or.inl rfl) (pe_op op_fdiv (pe_op op_mul (pv 4) (pe_op op_add (pv 7) (pe_ix ((i_list K rfl).or (i_tup K rfl)) (pv 1) (pv 2) (fun _ _ => rfl)))) (pv 6)))
    (pss_cons (ps_par (i := 3) (j := 4) (by rfl) sc_next_node.nd rfl rfl (by decide) rfl rfl (pa_cons (pe_op op_add (pv 3) (pv 8)) (pa_cons (pe_op op_sub (pv 9) (pv 8)) pa_nil)) (by rfl))
    (pss_cons (ps_while (passes_of rfl) (pt_cmpR op_lt (pv 4) (pe_glob (v := .int (65536)) rfl Z.c_LEAST_WIDTH ⟨_, rfl⟩) (nomark _))
      (pss_one (ps_par3 (i := 3) (j := 4) (l := 5) (by rfl) sc_next_node.nd rfl rfl rfl (by decide) (by decide) (by decide) rfl rfl rfl (pa_cons (pe_op op_mul pe_int (pv 3)) (pa_cons (pe_op op_mul pe_int (pv 4)) (pa_cons (pe_op op_add (pv 5) pe_int) pa_nil))) (by rfl))))
    (pss_one (ps_ret (pe_tup (pa_cons (pv 3) (pa_cons (pv 4) (pa_cons (pv 5) pa_nil))))))))))))), ?_⟩
  obtain ⟨a, b, l, w, sc, cs, j, rfl, hN, hB, hh⟩ := h
  walk_at "r"
  refine ifd (fun h0 => ?_) (fun h0 => ?_)
  rotate_left
  · walk_at "r"
    rcases hh with ⟨z, _⟩ | ⟨_, q⟩
    · exact absurd z h0
    · exact q
  walk_at "r"
  refine lenN hB ?_
  walk_at "r"
  refine ifn (fun h1 => ?_) (fun h1 => ?_)
  rotate_left
  · walk_at "r"
    rcases hh with ⟨_, z, _⟩ | ⟨_, q⟩
    · exact absurd (by omega) h1
    · exact q
  walk_at "r"
  rcases hh with ⟨_, hj, hcs, hw, hw2, q⟩ | ⟨z, _⟩
  rotate_left
  · exact absurd ⟨h0, h1⟩ z
  obtain ⟨jn, rfl⟩ : ∃ jn : Nat, j = (jn : Int) := ⟨j.toNat, by omega⟩
  rw [Int.toNat_natCast] at hj q
  have hs := hcs.sum
  have hle := hcs.le
  have hsb := (sum_take_le hcs.pos jn)
  have hsc := sum_take_succ hj
  have hsb2 := (sum_take_le hcs.pos (jn + 1))
  refine ⟨b, cs, rfl, hB, ?_⟩
  walk_at "r"
  refine slN hB hj fun p1 H1 e1 hp1 => ?_
  refine ⟨p1, _, rfl, hp1, ?_⟩
  walk_at "r"
  refine ixNN (hB.mono e1) hj ?_
  walk_at "r"
  rw [← hsc]
  have wide := part_wide hcs hw hj
  obtain ⟨L, hL⟩ : ∃ L, l + w * (cs.take jn).sum / cs.sum = L := ⟨_, rfl⟩
  obtain ⟨W, hW⟩ : ∃ W, w * (cs.take (jn + 1)).sum / cs.sum - w * (cs.take jn).sum / cs.sum = W := ⟨_, rfl⟩
  have q' : ∀ k p H', IsK W k → Same H H' → H p = none → H' p = some (.tup [.int (L * 2 ^ k), .int (W * 2 ^ k), .int ((sc + k : Nat) : Int)]) → Q (.ref p) H' := by
    rw [← hL, ← hW]; exact q
  have wide' : 1024 ≤ W := by rw [← hW]; exact wide
  rw [hL, hW]
  refine whileM (mon_test (mon_op mon_I0 mon_var mon_c)) (fun σ H' => ∃ i : Nat, σ = [some (.ref a), some (.ref b), some (.int (jn : Int)), some (.int (L * 2 ^ i)), some (.int (W * 2 ^ i)), some (.int ((sc + i : Nat) : Int)), some (.int cs.sum), some (.int (cs.take jn).sum), some (.int (w * (cs.take jn).sum / cs.sum)), some (.int (w * (cs.take (jn + 1)).sum / cs.sum))] ∧ H1 = H' ∧ ∀ i' < i, W * 2 ^ i' < 65536) (fun σ _ => match σ with
      | [_, _, _, _, some (.int x), _, _, _, _, _] => (65536 - x).toNat
      | _ => 0) ⟨0, by simp; rfl, rfl, fun _ h => absurd h (by omega)⟩ ?_
  rintro σ H2 ⟨i, rfl, rfl, hi⟩
  have hp : 0 < W * 2 ^ i := Int.mul_pos (by omega) (Int.pow_pos (by decide))
  walk_at "r"
  refine ifd (fun h => ?_) (fun h => ?_)
  · walk_at "r"
    refine ⟨⟨i + 1, ?_, rfl, fun i' hi' => ?_⟩, ?_⟩
    · have e1 : 2 * (L * 2 ^ i) = L * 2 ^ (i + 1) := by rw [Int.pow_succ, Int.mul_comm 2 (L * 2 ^ i), Int.mul_assoc]
      have e2 : 2 * (W * 2 ^ i) = W * 2 ^ (i + 1) := by rw [Int.pow_succ, Int.mul_comm 2 (W * 2 ^ i), Int.mul_assoc]
      have e3 : ((sc + i : Nat) : Int) + 1 = ((sc + (i + 1) : Nat) : Int) := by omega
      rw [e1, e2, e3]; rfl
    · by_cases e : i' = i
      · subst e; exact h
      · exact hi i' (by omega)
    · show (65536 - 2 * (W * 2 ^ i)).toNat < (65536 - W * 2 ^ i).toNat
      omega
  · walk_at "r"
    refine ⟨sz (by simp), fun p hp => ?_⟩
    exact q' i p _ ⟨by omega, hi⟩ (e1.trans (Stp.new (S := S0) (Same.refl _) hp).same) (e1.free hp) upd_same
abbrev s_end_of : Stmt := topS 17
theorem sc_end_of : FnScope ["node", "left", "width", "scale", "first"] ["node"] (defScope s_end_of) := ⟨rfl, rfl, rfl, by decide +kernel, rfl, by decide +kernel, by decide +kernel⟩
def Ok_end_of (P : Program) (w : World) (K : PySem.W.Frag) (mg : Str → Option Value) (base : Heap) : Prop := ∃ fA fd, Fn P w K mg base (L2.CX P w) 2 "end_of" s_end_of fA fd ["node"] (sp_end_of K mg)
theorem okx_end_of (Z : Zs K mg) {fA : Addr} {fd : FuncData} (F : Fun K "end_of" "end_of" s_end_of fA fd) (m : mg "end_of" = some (.ref fA)) (C_fixed : Ok_fixed P w K mg base) : Fn P w K mg base (L2.CX P w) 2 "end_of" s_end_of fA fd ["node"] (sp_end_of K mg) := by
  obtain ⟨_, _, C_fixed⟩ := C_fixed
  refine ⟨F.okX sc_end_of (fun vs H Q E h => h.1) (fun cdv A outer s H vs Q E hr h => ?_), m, F.kp, F.binds fun _ _ _ _ _ _ us hl => match us, hl with | [_], _ => rfl, F⟩
  have hu64 := hr.units
  obtain ⟨hlen, h⟩ := h
  refine ⟨_, (pss_cons (ps_asg (pv 0) (pg_tup rfl (pgs_cons (pg_name (i := 1) sc_end_of.nd rfl (Or.inl rfl)) (pgs_cons (pg_name (i := 2) sc_end_of.nd rfl (Or.inl rfl)) (pgs_cons (pg_name (i := 3) sc_end_of.nd rfl (Or.inl rfl)) pgs_nil)))))
    (pss_cons (ps_set (i := 4) sc_end_of.nd rfl (Or.inl rfl) (pe_un un_neg (pe_op op_fdiv (pe_un un_neg (pv 1)) (pe_glob (v := .int (65536)) rfl Z.c_LEAST_WIDTH ⟨_, rfl⟩))))
    (pss_cons (ps_if (pt_cmpR op_le (pe_op op_mul (pe_op op_add (pv 4) pe_int) (pe_glob (v := .int (65536)) rfl Z.c_LEAST_WIDTH ⟨_, rfl⟩)) (pe_op op_add (pv 1) (pv 2)) (nomark _))
      (pss_one (ps_ret (pe_call C_fixed.G (hr.mono (by decide)) rfl C_fixed.m C_fixed.kp C_fixed.b .nil passL (pa_cons (pv 4) (pa_cons (pe_op op_sub (pv 3) (pe_glob (v := .int (16)) rfl Z.c_ROOT_SCALE ⟨_, rfl⟩)) pa_nil)))))
      pss_nil)
    (pss_one (ps_ret (pe_call C_fixed.G (hr.mono (by decide)) rfl C_fixed.m C_fixed.kp C_fixed.b .nil passL (pa_cons (pe_un un_neg (pe_op op_fdiv (pe_un un_neg (pv 1)) (pe_glob (v := .int (32768)) rfl Z.c_HALF_WIDTH ⟨_, rfl⟩))) (pa_cons (pe_op op_add (pe_op op_sub (pv 3) (pe_glob (v := .int (16)) rfl Z.c_ROOT_SCALE ⟨_, rfl⟩)) pe_int) pa_nil)))))))), ?_⟩
  obtain ⟨q, n, rfl, hq, nd, hk, kk⟩ := h
  obtain ⟨l, r, kn⟩ := n
  obtain ⟨r0, r1, l0, k0, top⟩ := nd
  dsimp only at hq kk r0 r1 l0 k0 top hk
  obtain ⟨k, hkk⟩ : ∃ k : Int, ((kn : Nat) : Int) = k := ⟨_, rfl⟩
  have hn : kn = k.toNat := by omega
  rw [hn] at top
  have hq' : SqT K H q [.int l, .int r, .int k] := by rw [← hkk]; exact hq
  clear hq
  rw [hkk] at kk
  have e16 : (2 : Int) ^ k.toNat = 2 ^ (k - 16).toNat * 65536 := by
    rw [show k.toNat = (k - 16).toNat + 16 by omega, Int.pow_add]; rfl
  have e15 : (2 : Int) ^ (k - 16 + 1).toNat = 2 ^ (k - 16).toNat * 2 := by
    rw [show (k - 16 + 1).toNat = (k - 16).toNat + 1 by omega, Int.pow_add]; rfl
  have c16 : ((2 ^ (k - 16).toNat : Nat) : Int) = 2 ^ (k - 16).toNat := by simp
  have c15 : ((2 ^ (k - 16 + 1).toNat : Nat) : Int) = 2 ^ (k - 16 + 1).toNat := by simp
  walk_at "r"
  refine ifd (fun h => ?_) (fun h => ?_)
  · walk_at "r"
    refine ⟨rfl, _, _, rfl, by omega, by omega, by omega, ?_, fun p H1 s1 hp h1 => kk p H1 s1 hp ?_⟩
    · refine Int.ofNat_lt.mp ?_
      first | rw [c16] | rw [c15]
      omega
    · rw [h1, endOf, if_pos h]; rfl
  · walk_at "r"
    refine ⟨rfl, _, _, rfl, by omega, by omega, by omega, ?_, fun p H1 s1 hp h1 => kk p H1 s1 hp ?_⟩
    · refine Int.ofNat_lt.mp ?_
      first | rw [c16] | rw [c15]
      omega
    · rw [h1, endOf, if_neg h, show k - 15 = k - 16 + 1 by omega]; rfl
abbrev s_Ranger___init__ : Stmt := inClass (topS 18) 0
theorem sc_Ranger___init__ : FnScope ["self"] ["self"] (defScope s_Ranger___init__) := ⟨rfl, rfl, rfl, by decide +kernel, rfl, by decide +kernel, by decide +kernel⟩
def Ok_Ranger___init__ (P : Program) (w : World) (K : PySem.W.Frag) (mg : Str → Option Value) (base : Heap) : Prop := ∃ fA fd, FnC P w K mg base (L2.CX P w) 1 "__init__" "Ranger.__init__" s_Ranger___init__ fA fd ["self"] (sp_Ranger___init__ K mg) ∧ Mk K (exA mg "Ranger") fA
theorem okx_Ranger___init__ (Z : Zs K mg) {fA : Addr} {fd : FuncData} (F : Fun K "__init__" "Ranger.__init__" s_Ranger___init__ fA fd)  : FnC P w K mg base (L2.CX P w) 1 "__init__" "Ranger.__init__" s_Ranger___init__ fA fd ["self"] (sp_Ranger___init__ K mg) := by
  refine ⟨F.okX sc_Ranger___init__ (fun vs H Q E h => h.1) (fun cdv A outer s H vs Q E hr h => ?_), F.binds fun _ _ _ _ _ _ us hl => match us, hl with | [_], _ => rfl, F⟩
  have hu64 := hr.units
  obtain ⟨hlen, h⟩ := h
  refine ⟨_, (pss_one (ps_fld (pv 0) (pe_glob (v := .ref (exA mg "ROOT")) rfl Z.t_ROOT.1 rfl) rfl)), ?_⟩
  obtain ⟨a, dx, rfl, ha, q⟩ := h
  walk_at "r"
  refine ⟨a, _, dx, _, rfl, ha, Z.o_Ranger.cl, Z.n_Ranger__node, by decide, ?_⟩
  exact q
abbrev s_Ranger_take : Stmt := inClass (topS 18) 1
theorem sc_Ranger_take : FnScope ["self", "counts", "j"] ["self", "counts", "j"] (defScope s_Ranger_take) := ⟨rfl, rfl, rfl, by decide +kernel, rfl, by decide +kernel, by decide +kernel⟩
def Ok_Ranger_take (P : Program) (w : World) (K : PySem.W.Frag) (mg : Str → Option Value) (base : Heap) : Prop := ∃ fA fd, FnC P w K mg base (L2.CX P w) 2 "take" "Ranger.take" s_Ranger_take fA fd ["self", "counts", "j"] (sp_Ranger_take K mg) ∧ Meth K (exA mg "Ranger") "take" fA
theorem okx_Ranger_take (Z : Zs K mg) {fA : Addr} {fd : FuncData} (F : Fun K "take" "Ranger.take" s_Ranger_take fA fd) (C_next_node : Ok_next_node P w K mg base) : FnC P w K mg base (L2.CX P w) 2 "take" "Ranger.take" s_Ranger_take fA fd ["self", "counts", "j"] (sp_Ranger_take K mg) := by
  obtain ⟨_, _, C_next_node⟩ := C_next_node
  refine ⟨F.okX sc_Ranger_take (fun vs H Q E h => h.1) (fun cdv A outer s H vs Q E hr h => ?_), F.binds fun _ _ _ _ _ _ us hl => match us, hl with | [_, _, _], _ => rfl, F⟩
  have hu64 := hr.units
  obtain ⟨hlen, h⟩ := h
  refine ⟨_, (pss_one (ps_fld (pv 0) (pe_call C_next_node.G (hr.mono (by decide)) rfl C_next_node.m C_next_node.kp C_next_node.b .nil passL (pa_cons (pe_fld (pv 0) rfl) (pa_cons (pv 1) (pa_cons (pv 2) pa_nil)))) rfl)), ?_⟩
  obtain ⟨a, b, dx, q0, n, cs, j, rfl, ha, hq, hb, hj, hcs, nd, q⟩ := h
  walk_at "r"
  refine ⟨a, _, dx, _, _, rfl, ha, Z.o_Ranger.cl, Z.n_Ranger__node, rfl, ?_⟩
  walk_at "r"
  refine ⟨rfl, q0, b, _, _, _, cs, j, rfl, hq, .inl hb, .inl ⟨by omega, by rw [Int.toNat_natCast]; exact hj, hcs, nd.w0, nd.w1, fun k p H1 hk s1 hp h1 => ?_⟩⟩
  rw [Int.toNat_natCast] at hk h1
  walk_at "r"
  refine ⟨a, _, dx, _, rfl, s1 _ _ ha, Z.o_Ranger.cl, Z.n_Ranger__node, (by show 1 < 1000; decide), ?_⟩
  refine q p H1 s1 hp ?_
  rw [h1, childN_k hk (part_wide hcs nd.w0 hj)]
abbrev s_Ranger_end : Stmt := inClass (topS 18) 3
theorem sc_Ranger_end : FnScope ["self"] ["self"] (defScope s_Ranger_end) := ⟨rfl, rfl, rfl, by decide +kernel, rfl, by decide +kernel, by decide +kernel⟩
def Ok_Ranger_end (P : Program) (w : World) (K : PySem.W.Frag) (mg : Str → Option Value) (base : Heap) : Prop := ∃ fA fd, FnC P w K mg base (L2.CX P w) 3 "end" "Ranger.end" s_Ranger_end fA fd ["self"] (sp_Ranger_end K mg) ∧ Meth K (exA mg "Ranger") "end" fA
theorem okx_Ranger_end (Z : Zs K mg) {fA : Addr} {fd : FuncData} (F : Fun K "end" "Ranger.end" s_Ranger_end fA fd) (C_end_of : Ok_end_of P w K mg base) : FnC P w K mg base (L2.CX P w) 3 "end" "Ranger.end" s_Ranger_end fA fd ["self"] (sp_Ranger_end K mg) := by
  obtain ⟨_, _, C_end_of⟩ := C_end_of
  refine ⟨F.okX sc_Ranger_end (fun vs H Q E h => h.1) (fun cdv A outer s H vs Q E hr h => ?_), F.binds fun _ _ _ _ _ _ us hl => match us, hl with | [_], _ => rfl, F⟩
  have hu64 := hr.units
  obtain ⟨hlen, h⟩ := h
  refine ⟨_, (pss_one (ps_ret (pe_call C_end_of.G (hr.mono (by decide)) rfl C_end_of.m C_end_of.kp C_end_of.b .nil passL (pa_cons (pe_fld (pv 0) rfl) pa_nil)))), ?_⟩
  obtain ⟨a, n, rfl, ⟨dx, q0, ha, hq⟩, nd, hs, q⟩ := h
  walk_at "r"
  refine ⟨a, _, dx, _, _, rfl, ha, Z.o_Ranger.cl, Z.n_Ranger__node, rfl, ?_⟩
  exact ⟨rfl, q0, n, rfl, hq, nd, hs, q⟩
abbrev s_holds : Stmt := topS 20
theorem sc_holds : FnScope ["node", "value", "many", "left", "width", "scale", "shift", "first", "last"] ["node", "value", "many"] (defScope s_holds) := ⟨rfl, rfl, rfl, by decide +kernel, rfl, by decide +kernel, by decide +kernel⟩
def Ok_holds (P : Program) (w : World) (K : PySem.W.Frag) (mg : Str → Option Value) (base : Heap) : Prop := ∃ fA fd, Fn P w K mg base (L2.CX P w) 1 "holds" s_holds fA fd ["node", "value", "many"] (sp_holds K mg)
theorem okx_holds (Z : Zs K mg) {fA : Addr} {fd : FuncData} (F : Fun K "holds" "holds" s_holds fA fd) (m : mg "holds" = some (.ref fA))  : Fn P w K mg base (L2.CX P w) 1 "holds" s_holds fA fd ["node", "value", "many"] (sp_holds K mg) := by
  refine ⟨F.okX sc_holds (fun vs H Q E h => h.1) (fun cdv A outer s H vs Q E hr h => ?_), m, F.kp, F.binds fun _ _ _ _ _ _ us hl => match us, hl with | [_, _, _], _ => rfl, F⟩
  have hu64 := hr.units
  obtain ⟨hlen, h⟩ := h
  refine ⟨_, (pss_cons (ps_asg (pv 0) (pg_tup rfl (pgs_cons (pg_name (i := 3) sc_holds.nd rfl (Or.inl rfl)) (pgs_cons (pg_name (i := 4) sc_holds.nd rfl (Or.inl rfl)) (pgs_cons (pg_name (i := 5) sc_holds.nd rfl (Or.inl rfl)) pgs_nil)))))
    (pss_cons (ps_set (i := 6) sc_holds.nd rfl (Or.inl rfl) (pe_callB (c_max2 rfl) (by rfl) Z.z_max (by decide +kernel) (pa_cons (pe_op op_sub (pv 2) (pv 5)) (pa_cons pe_int pa_nil))))
    (pss_cons (ps_par (i := 7) (j := 8) (by rfl) sc_holds.nd rfl rfl (by decide) rfl rfl (pa_cons (pe_op op_shlW (pv 3) (pv 6)) (pa_cons (pe_op op_shlW (pe_op op_add (pv 3) (pv 4)) (pv 6)) pa_nil)) (by rfl))
    (pss_cons (ps_set (i := 6) sc_holds.nd rfl (Or.inl rfl) (pe_callB (c_max2 rfl) (by rfl) Z.z_max (by decide +kernel) (pa_cons (pe_op op_sub (pv 5) (pv 2)) (pa_cons pe_int pa_nil))))
    (pss_one (ps_ret (pe_and (pe_cmpR op_le (pv 7) (pe_op op_shlW (pv 1) (pv 6)) (nomark _)) (pe_one (pe_cmpR op_le (pe_op op_shlW (pe_op op_add (pv 1) pe_int) (pv 6)) (pv 8) (nomark _)))))))))), ?_⟩
  obtain ⟨q0, n, v, many, rfl, hq, nd, hs, hm, hv, hv2, q⟩ := h
  obtain ⟨l, w, sc⟩ := n
  obtain ⟨w0, w1, l0, s0, top⟩ := nd
  unfold HoldsP at q
  dsimp only at hq hs w0 w1 l0 s0 top q
  have hq' : SqT K H q0 [.int l, .int w, .int (sc : Nat)] := hq
  clear hq
  walk_at "r"
  have e1 : (if (0 : Int) > (many : Int) - (sc : Int) then (0 : Int) else (many : Int) - (sc : Int)) = ((many - sc : Nat) : Int) := by split <;> omega
  have e2 : (if (0 : Int) > (sc : Int) - (many : Int) then (0 : Int) else (sc : Int) - (many : Int)) = ((sc - many : Nat) : Int) := by split <;> omega
  rw [e1]
  refine ⟨_, _, rfl, rfl, cshl l0 (by omega) hs (by omega) (by omega), ?_⟩
  walk_at "r"
  refine ⟨_, _, rfl, rfl, cshl (by omega) top hs (by omega) (by omega), ?_⟩
  walk_at "r"
  rw [e2]
  refine ⟨_, _, rfl, rfl, cshl hv (Int.le_of_lt hv2) hm (by omega) (by omega), ?_⟩
  walk_at "r"
  refine ifd (p := l * 2 ^ (many - sc) ≤ v * 2 ^ (sc - many)) (fun h => ?_) (fun h => ?_)
  · walk_at "r"
    refine ⟨_, _, rfl, rfl, cshl (by omega) (by omega) hm (by omega) (by omega), ?_⟩
    walk_at "r"
    have : decide ((v + 1) * 2 ^ (sc - many) ≤ (l + w) * 2 ^ (many - sc)) = decide (l * 2 ^ (many - sc) ≤ v * 2 ^ (sc - many) ∧ (v + 1) * 2 ^ (sc - many) ≤ (l + w) * 2 ^ (many - sc)) := by simp [h]
    show Q (.bl (decide ((v + 1) * 2 ^ (sc - many) ≤ (l + w) * 2 ^ (many - sc)))) H
    rw [this]; exact q
  · walk_at "r"
    have : false = decide (l * 2 ^ (many - sc) ≤ v * 2 ^ (sc - many) ∧ (v + 1) * 2 ^ (sc - many) ≤ (l + w) * 2 ^ (many - sc)) := by simp [h]
    rw [this]; exact q
abbrev s_told_child : Stmt := topS 21
theorem sc_told_child : FnScope ["node", "counts", "value", "many", "letter", "child"] ["node", "counts", "value", "many"] (defScope s_told_child) := ⟨rfl, rfl, rfl, by decide +kernel, rfl, by decide +kernel, by decide +kernel⟩
def Ok_told_child (P : Program) (w : World) (K : PySem.W.Frag) (mg : Str → Option Value) (base : Heap) : Prop := ∃ fA fd, Fn P w K mg base (L2.CX P w) 2 "told_child" s_told_child fA fd ["node", "counts", "value", "many"] (sp_told_child K mg)
theorem okx_told_child (Z : Zs K mg) {fA : Addr} {fd : FuncData} (F : Fun K "told_child" "told_child" s_told_child fA fd) (m : mg "told_child" = some (.ref fA)) (C_holds : Ok_holds P w K mg base) (C_next_node : Ok_next_node P w K mg base) : Fn P w K mg base (L2.CX P w) 2 "told_child" s_told_child fA fd ["node", "counts", "value", "many"] (sp_told_child K mg) := by
  obtain ⟨_, _, C_holds⟩ := C_holds
  obtain ⟨_, _, C_next_node⟩ := C_next_node
  refine ⟨F.okX sc_told_child (fun vs H Q E h => h.1) (fun cdv A outer s H vs Q E hr h => ?_), m, F.kp, F.binds fun _ _ _ _ _ _ us hl => match us, hl with | [_, _, _, _], _ => rfl, F⟩
  have hu64 := hr.units
  obtain ⟨hlen, h⟩ := h
  refine ⟨_, (pss_cons (ps_for (passes_of rfl) rfl (pi_range1 rfl Z.z_range (pa_cons (pe_callB (c_len K rfl) (by rfl) Z.z_len (by decide +kernel) (pa_cons (pv 1) pa_nil)) pa_nil)) (pg_name (i := 4) sc_told_child.nd rfl (Or.inl rfl))
      (pss_cons (ps_set (i := 5) sc_told_child.nd rfl (Or.inl rfl) (pe_call C_next_node.G (hr.mono (by decide)) rfl C_next_node.m C_next_node.kp C_next_node.b .nil passL (pa_cons (pv 0) (pa_cons (pv 1) (pa_cons (pv 4) pa_nil)))))
    (pss_one (ps_if (pt_val (pe_call C_holds.G (hr.mono (by decide)) rfl C_holds.m C_holds.kp C_holds.b .nil passL (pa_cons (pv 5) (pa_cons (pv 2) (pa_cons (pv 3) pa_nil)))))
      (pss_one (ps_ret (pe_tup (pa_cons (pv 4) (pa_cons (pv 5) pa_nil)))))
      pss_nil))))
    (pss_one (ps_ret (pe_tup (pa_cons pe_non (pa_cons (pv 0) pa_nil)))))), ?_⟩
  obtain ⟨q0, b, n, cs, v, many, rfl, hq, hb, hcs, hc3, nd, hs, hm, hv, hv2, q1, q2⟩ := h
  walk_at "r"
  rw [List.length_map]
  refine ⟨_, rfl, by omega, by omega, ?_⟩
  rw [Int.toNat_natCast]
  refine forR (fun i σ H' => ∃ v1 v2, σ = [some (.ref q0), some (.ref b), some (.int v), some (.int (many : Int)), v1, v2] ∧ Same H H' ∧ ∀ i' < i, ¬ HoldsP (childN n cs i') v many) ⟨_, _, rfl, Same.refl H, fun i hi => absurd hi (Nat.not_lt_zero i)⟩ ?_ ?_
  · rintro i σ H' hi ⟨v1, v2, rfl, sH, hn⟩
    have ei : (0 : Int) + (i : Int) = ((i : Nat) : Int) := by omega
    dsimp only
    rw [ei]
    walk_at "r"
    refine ⟨rfl, q0, b, n.l, n.w, n.s, cs, i, rfl, seqT' sH hq, .inl (sH.seq hb), .inl ⟨by omega, by rw [Int.toNat_natCast]; exact hi, hcs, nd.w0, nd.w1, fun k p H1 hk s1 hp h1 => ?_⟩⟩
    rw [Int.toNat_natCast] at hk h1
    have hk6 := isK_le hk (part_wide hcs nd.w0 hi)
    rw [childN_k hk (part_wide hcs nd.w0 hi)] at h1
    walk_at "r"
    refine ⟨rfl, p, childN n cs i, v, many, rfl, SqT.of h1, childN_ok nd hcs hi, ?_, hm, hv, hv2, ?_⟩
    · show n.s + kOf _ ≤ 1000
      rw [kOf_eq hk (part_wide hcs nd.w0 hi)]; omega
    walk_at "r"
    refine ifd (fun h => ?_) (fun h => ?_)
    · walk_at "r"
      refine ⟨sz (by simp), fun p2 hp2 => ?_⟩
      have s2 := (Stp.new (S := S0) (o := .tup [.int (i : Int), .ref p]) (Same.refl H1) hp2).same
      exact q1 i ⟨hi, h, hn⟩ p2 p _ (sH.trans (s1.trans s2)) (same_none (sH.trans s1) hp2) upd_same (same_none sH hp) (s2 _ _ h1)
    · walk_at "r"
      refine ⟨_, _, rfl, sH.trans s1, fun i' hi' => ?_⟩
      by_cases e : i' = i
      · rw [e]; exact h
      · exact hn i' (by omega)
  · rintro σ H' ⟨v1, v2, rfl, sH, hn⟩
    walk_at "r"
    refine ⟨sz (by simp), fun p2 hp2 => ?_⟩
    exact q2 hn p2 _ (sH.trans (Stp.new (S := S0) (Same.refl _) hp2).same) (same_none sH hp2) upd_same
abbrev s_want_rect : Stmt := topS 24
theorem sc_want_rect : FnScope ["rect", "x0", "x1", "y0", "y1"] ["rect"] (defScope s_want_rect) := ⟨rfl, rfl, rfl, by decide +kernel, rfl, by decide +kernel, by decide +kernel⟩
def Ok_want_rect (P : Program) (w : World) (K : PySem.W.Frag) (mg : Str → Option Value) (base : Heap) : Prop := ∃ fA fd, Fn P w K mg base (L2.CX P w) 1 "want_rect" s_want_rect fA fd ["rect"] (sp_want_rect K mg)
theorem okx_want_rect (Z : Zs K mg) {fA : Addr} {fd : FuncData} (F : Fun K "want_rect" "want_rect" s_want_rect fA fd) (m : mg "want_rect" = some (.ref fA))  : Fn P w K mg base (L2.CX P w) 1 "want_rect" s_want_rect fA fd ["rect"] (sp_want_rect K mg) := by
  refine ⟨F.okX sc_want_rect (fun vs H Q E h => h.1) (fun cdv A outer s H vs Q E hr h => ?_), m, F.kp, F.binds fun _ _ _ _ _ _ us hl => match us, hl with | [_], _ => rfl, F⟩
  have hu64 := hr.units
  obtain ⟨hlen, h⟩ := h
  refine ⟨_, (pss_cons (ps_asg (pv 0) (pg_tup rfl (pgs_cons (pg_name (i := 1) sc_want_rect.nd rfl (Or.inl rfl)) (pgs_cons (pg_name (i := 2) sc_want_rect.nd rfl (Or.inl rfl)) (pgs_cons (pg_name (i := 3) sc_want_rect.nd rfl (Or.inl rfl)) (pgs_cons (pg_name (i := 4) sc_want_rect.nd rfl (Or.inl rfl)) pgs_nil))))))
    (pss_one (ps_if (PW.pt (pw_or (pt_cmpR op_gt (pv 1) (pv 2) (nomark _)) (pw_or1 (pt_cmpR op_gt (pv 3) (pv 4) (nomark _)))))
      (pss_one (ps_raise rfl (takes_of rfl rfl rfl rfl) (pmk_own0 PySem.F.excBase_ValueError Z.x_BadGrid.x Z.x_BadGrid.g Z.x_BadGrid.k (raises_own Z.x_BadGrid.b Z.x_BadGrid.t) rfl)))
      pss_nil))), ?_⟩
  obtain ⟨r, x0, x1, y0, y1, rfl, hr, h1, h2, q⟩ := h
  walk_at "r"
  refine ifd (fun h => absurd h (by omega)) (fun _ => ?_)
  walk_at "r"
  refine ifd (fun h => absurd h (by omega)) (fun _ => ?_)
  walk_at "r"
  exact q
abbrev s_Table___init__ : Stmt := inClass (topS 28) 0
theorem sc_Table___init__ : FnScope ["self", "m"] ["self", "m"] (defScope s_Table___init__) := ⟨rfl, rfl, rfl, by decide +kernel, rfl, by decide +kernel, by decide +kernel⟩
def Ok_Table___init__ (P : Program) (w : World) (K : PySem.W.Frag) (mg : Str → Option Value) (base : Heap) : Prop := ∃ fA fd, FnC P w K mg base (L2.CX P w) 1 "__init__" "Table.__init__" s_Table___init__ fA fd ["self", "m"] (sp_Table___init__ K mg) ∧ Mk K (exA mg "Table") fA
theorem okx_Table___init__ (Z : Zs K mg) {fA : Addr} {fd : FuncData} (F : Fun K "__init__" "Table.__init__" s_Table___init__ fA fd)  : FnC P w K mg base (L2.CX P w) 1 "__init__" "Table.__init__" s_Table___init__ fA fd ["self", "m"] (sp_Table___init__ K mg) := by
  refine ⟨F.okX sc_Table___init__ (fun vs H Q E h => h.1) (fun cdv A outer s H vs Q E hr h => ?_), F.binds fun _ _ _ _ _ _ us hl => match us, hl with | [_, _], _ => rfl, F⟩
  have hu64 := hr.units
  obtain ⟨hlen, h⟩ := h
  refine ⟨_, (pss_cons (ps_if (pt_cmpR (o_notIn K rfl) (pv 1) (pe_tup (pa_cons pe_int (pa_cons pe_int pa_nil))) rfl)
      (pss_one (ps_raise rfl (takes_of rfl rfl rfl rfl) (pmk_own0 PySem.F.excBase_ValueError Z.x_Outside.x Z.x_Outside.g Z.x_Outside.k (raises_own Z.x_Outside.b Z.x_Outside.t) rfl)))
      pss_nil)
    (pss_one (ps_fld (pv 0) (pe_op op_rep (pe_lst (pa_cons pe_int pa_nil)) (pv 1)) rfl))), ?_⟩
  obtain ⟨p, dx, m, rfl, hp, hh⟩ := h
  walk_at "r"
  refine ⟨sz (by simp), fun t ht => ?_⟩
  have e1 := (Stp.new (S := S0) (o := .tup [.int 2, .int 3]) (Same.refl H) ht).same
  have h1 : upd H t (.tup [.int 2, .int 3]) t = some (.tup ([(2 : Int), 3].map V.int)) := upd_same
  generalize upd H t _ = H1 at e1 h1 ⊢
  refine ⟨t, _, rfl, .inr (SqT.of h1), rfl, flat_ints _, ?_⟩
  rw [if_pos rfl, inV_ints]
  walk_at "r"
  refine ifn (fun z => ?_) (fun z => ?_)
  rotate_left
  · walk_at "r"
    rcases hh with ⟨w, _⟩ | ⟨_, q⟩
    · exact absurd (by simpa using w) z
    · exact q H1 e1
  rcases hh with ⟨hm, q⟩ | ⟨w, _⟩
  rotate_left
  · exact absurd (by simpa using z) w
  walk_at "r"
  refine ⟨sz (by simp), fun l0 hl0 => ?_⟩
  have e2 := (Stp.new (S := S0) (o := .lst [.int 1]) (Same.refl H1) hl0).same
  have h2 : upd H1 l0 (.lst [.int 1]) l0 = some (.lst [.int 1]) := upd_same
  generalize upd H1 l0 _ = H2 at e2 h2 ⊢
  walk_at "r"
  refine s_rep h2 (by omega) (by omega) fun l hl => ?_
  have npl : p ≠ l := ne_of_none (e2 _ _ (e1 _ _ hp)) hl
  walk_at "r"
  refine ⟨p, _, dx, _, rfl, by rw [upd_ne npl]; exact e2 _ _ (e1 _ _ hp), Z.o_Table.cl, Z.n_Table__counts, by decide, ?_⟩
  refine q l l0 t H2 _ (e1.trans e2) ht h2 (e1.free hl0) hl ?_
  rw [List.map_replicate]; rfl
abbrev s_Table_counts : Stmt := inClass (topS 28) 1
theorem sc_Table_counts : FnScope ["self"] ["self"] (defScope s_Table_counts) := ⟨rfl, rfl, rfl, by decide +kernel, rfl, by decide +kernel, by decide +kernel⟩
def Ok_Table_counts (P : Program) (w : World) (K : PySem.W.Frag) (mg : Str → Option Value) (base : Heap) : Prop := ∃ fA fd pA, FnC P w K mg base (L2.CX P w) 1 "counts" "Table.counts" s_Table_counts fA fd ["self"] (sp_Table_counts K mg) ∧ PropOf K (exA mg "Table") "counts" pA fA
theorem okx_Table_counts (Z : Zs K mg) {fA : Addr} {fd : FuncData} (F : Fun K "counts" "Table.counts" s_Table_counts fA fd)  : FnC P w K mg base (L2.CX P w) 1 "counts" "Table.counts" s_Table_counts fA fd ["self"] (sp_Table_counts K mg) := by
  refine ⟨F.okX sc_Table_counts (fun vs H Q E h => h.1) (fun cdv A outer s H vs Q E hr h => ?_), F.binds fun _ _ _ _ _ _ us hl => match us, hl with | [_], _ => rfl, F⟩
  have hu64 := hr.units
  obtain ⟨hlen, h⟩ := h
  refine ⟨_, (pss_one (ps_ret (pe_callTy call_list_of (by rfl) Z.z_list (by decide +kernel) (pa_cons (pe_fld (pv 0) rfl) pa_nil)))), ?_⟩
  obtain ⟨p, dx, l, cs, rfl, ⟨hp, hl⟩, q⟩ := h
  walk_at "r"
  refine ⟨p, _, dx, _, _, rfl, hp, Z.o_Table.cl, Z.n_Table__counts, rfl, ?_⟩
  exact ⟨l, _, rfl, .inl (SqL.of hl), q⟩
abbrev s_Table_learn : Stmt := inClass (topS 28) 3
theorem sc_Table_learn : FnScope ["self", "j", "one"] ["self", "j"] (defScope s_Table_learn) := ⟨rfl, rfl, rfl, by decide +kernel, rfl, by decide +kernel, by decide +kernel⟩
def Ok_Table_learn (P : Program) (w : World) (K : PySem.W.Frag) (mg : Str → Option Value) (base : Heap) : Prop := ∃ fA fd, FnC P w K mg base (L2.CX P w) 1 "learn" "Table.learn" s_Table_learn fA fd ["self", "j"] (sp_Table_learn K mg) ∧ Meth K (exA mg "Table") "learn" fA
theorem okx_Table_learn (Z : Zs K mg) {fA : Addr} {fd : FuncData} (F : Fun K "learn" "Table.learn" s_Table_learn fA fd)  : FnC P w K mg base (L2.CX P w) 1 "learn" "Table.learn" s_Table_learn fA fd ["self", "j"] (sp_Table_learn K mg) := by
  refine ⟨F.okX sc_Table_learn (fun vs H Q E h => h.1) (fun cdv A outer s H vs Q E hr h => ?_), F.binds fun _ _ _ _ _ _ us hl => match us, hl with | [_, _], _ => rfl, F⟩
  have hu64 := hr.units
  obtain ⟨hlen, h⟩ := h
  refine ⟨_, (pss_cons (ps_if (pt_not (pt_chain op_le op_lt pe_int (pv 1) (pe_callB (c_len K rfl) (by rfl) Z.z_len (by decide +kernel) (pa_cons (pe_fld (pv 0) rfl) pa_nil))))
      (pss_one (ps_raise rfl (takes_of rfl rfl rfl rfl) (pmk_own0 PySem.F.excBase_ValueError Z.x_Outside.x Z.x_Outside.g Z.x_Outside.k (raises_own Z.x_Outside.b Z.x_Outside.t) rfl)))
      pss_nil)
    (pss_cons (ps_asg (pe_op op_add (pe_ix (i_list K rfl) (pe_fld (pv 0) rfl) (pv 1) (fun _ _ => rfl)) (pe_glob (v := .int (2)) rfl Z.c_GAIN ⟨_, rfl⟩)) (pg_sub (pe_fld (pv 0) rfl) (pv 1) set_list))
    (pss_one (ps_if (pt_cmpR op_gt (pe_callB (c_sum K rfl rfl) (by rfl) Z.z_sum (by decide +kernel) (pa_cons (pe_fld (pv 0) rfl) pa_nil)) (pe_glob (v := .int (64)) rfl Z.c_MOST_TOTAL ⟨_, rfl⟩) (nomark _))
      (pss_one (ps_fld (pv 0) (pe_lc (own := [("one", 2)]) (g := gName 2) (tt := tYes) (by rfl) sc_Table_learn.nd (pi_list (pe_fld (pv 0) rfl)) (blkOk_by (own := [("one", 2)]) (N := ["self", "j", "one"]) (sc := defScope s_Table_learn) (by decide +kernel)) (fun _ _ _ _ _ => (pg_name (i := 2) sc_Table_learn.nd rfl (Or.inl rfl))) (fun _ _ _ _ _ => pts_nil) (fun _ _ _ _ _ => (pe_op op_fdiv (pe_op op_add (pv 2) pe_int) pe_int))) rfl))
      pss_nil)))), ?_⟩
  obtain ⟨F, p, dx, l, cs, j, rfl, ⟨hp, hl⟩, hc100, hF, Fp, Fl, hh⟩ := h
  have nlp : l ≠ p := ne_of hl hp (by intro q; cases q)
  walk_at "r"
  refine ifd (fun h0 => ?_) (fun h0 => ?_)
  rotate_left
  · walk_at "r"
    rcases hh with ⟨z, _⟩ | ⟨_, q⟩
    · exact absurd z h0
    · exact q
  walk_at "r"
  refine ⟨p, _, dx, _, _, rfl, hp, Z.o_Table.cl, Z.n_Table__counts, rfl, ?_⟩
  walk_at "r"
  rw [List.length_map]
  refine ifn (fun h1 => ?_) (fun h1 => ?_)
  rotate_left
  · walk_at "r"
    rcases hh with ⟨_, z, _⟩ | ⟨_, q⟩
    · exact absurd (by omega) h1
    · exact q
  rcases hh with ⟨_, hj, q⟩ | ⟨z, _⟩
  rotate_left
  · exact absurd ⟨h0, h1⟩ z
  obtain ⟨jn, rfl⟩ : ∃ jn : Nat, j = (jn : Int) := ⟨j.toNat, by omega⟩
  rw [Int.toNat_natCast] at hj q
  walk_at "r"
  refine ⟨p, _, dx, _, _, rfl, hp, Z.o_Table.cl, Z.n_Table__counts, rfl, ?_⟩
  walk_at "r"
  refine s_ixL (SqL.of hl) (at_nat' (get_int hj)) ?_
  walk_at "r"
  refine ⟨p, _, dx, _, _, rfl, hp, Z.o_Table.cl, Z.n_Table__counts, rfl, ?_⟩
  walk_at "r"
  refine s_setL hl (ixN_of (by rw [List.length_map]; exact hj)) ?_
  have hset : (cs.map V.int).set jn (.int (cs[jn] + 2)) = (cs.set jn (cs.getD jn 0 + 2)).map V.int := by
    rw [List.map_set, List.getD_eq_getElem?_getD, List.getElem?_eq_getElem hj]; rfl
  rw [hset]
  obtain ⟨ds, hds⟩ : ∃ ds, cs.set jn (cs.getD jn 0 + 2) = ds := ⟨_, rfl⟩
  have hdl : ds.length = cs.length := by rw [← hds, List.length_set]
  have hlearn : learnL cs jn = if ds.sum > 64 then ds.map (fun o => (o + 1) / 2) else ds := by unfold learnL; rw [hds]
  rw [hds]
  have F1 : Same F (upd H l (.lst (ds.map V.int))) := fun b o e => by
    rw [upd_ne (fun z => by rw [z, Fl] at e; cases e)]; exact hF _ _ e
  have hp1 : upd H l (.lst (ds.map V.int)) p = some (.ins (exA mg "Table") dx [("_counts", .ref l)]) := by rw [upd_ne nlp.symm]; exact hp
  have hl1 : upd H l (.lst (ds.map V.int)) l = some (.lst (ds.map V.int)) := upd_same
  have o1 : ∀ b, b ≠ p → b ≠ l → ∀ o, H b = some o → upd H l (.lst (ds.map V.int)) b = some o := fun b _ nb o e => by rw [upd_ne nb]; exact e
  generalize upd H l _ = H1 at F1 hp1 hl1 o1 ⊢
  walk_at "r"
  refine ⟨p, _, dx, _, _, rfl, hp1, Z.o_Table.cl, Z.n_Table__counts, rfl, ?_⟩
  refine ⟨l, ds, rfl, SqL.of hl1, ?_⟩
  walk_at "r"
  refine ifd (fun h2 => ?_) (fun h2 => ?_)
  · walk_at "r"
    refine ⟨p, _, dx, _, _, rfl, hp1, Z.o_Table.cl, Z.n_Table__counts, rfl, ?_⟩
    refine ⟨l, rfl, ⟨_, SqL.of hl1⟩, ?_⟩
    refine lcW (walk_list (xs := ds.map V.int)) S0 (Same.refl H1) (fun _ z => z.elim) (fun F2 H2 st => SqL.of (st.same _ _ hl1)) (fun i acc F H => acc = ((ds.take i).map (fun o => (o + 1) / 2)).map V.int) (fun _ _ _ _ _ _ _ _ _ r => r) rfl ?_ ?_
    · rintro i x acc d F2 H2' H2 hi ⟨rfl, hx⟩ hd nS st f0 e hl2 rr
      have hi' : i < ds.length := by simpa using hi
      rw [List.getElem?_map, List.getElem?_eq_getElem hi'] at hx
      obtain rfl := Option.some.inj hx
      walk_at "r"
      refine lc_end hd nS st f0 e hl2 (by omega) (.rfl' st.fh) ?_
      rw [rr, List.take_succ_eq_append_getElem hi', List.map_append, List.map_append]; rfl
    · intro d acc F2 F3 H2 st hd f0 ef st1 hl2 rr
      rw [List.length_map, List.take_length] at rr
      have hd2 : H2 d = some (.lst acc) := by rw [ef] at st1; exact st1.fh _ _ upd_same
      have npd : p ≠ d := ne_of_none hp1 hd
      walk_at "r"
      refine ⟨p, _, dx, _, rfl, st.same _ _ hp1, Z.o_Table.cl, Z.n_Table__counts, (by show 1 < 1000; decide), ?_⟩
      have Fd : F d = none := F1.free hd
      have hdl2 : d ≠ l := fun z => by rw [z, hl1] at hd; cases hd
      have Hd : H d = none := by
        cases z : H d with
        | none => rfl
        | some o => rw [o1 d npd.symm hdl2 o z] at hd; cases hd
      refine q d _ ⟨upd_same, ?_⟩ (fun b o e => ?_) Fd (.inr Hd) (fun b nb1 nb2 o e => ?_) ⟨_, by rw [upd_ne nlp]; exact st.same _ _ hl1⟩
      · rw [upd_ne npd.symm, hd2, rr, hlearn, if_pos h2]
      · rw [upd_ne (fun z => by rw [z, Fp] at e; cases e)]; exact st.same _ _ (F1 _ _ e)
      · rw [upd_ne nb1]; exact st.same _ _ (o1 b nb1 nb2 o e)
  · walk_at "r"
    rw [if_neg h2] at hlearn
    exact q l H1 ⟨hp1, by rw [hlearn]; exact hl1⟩ F1 Fl (.inl rfl) o1 ⟨_, hl1⟩
abbrev s_want_planes : Stmt := topS 37
theorem sc_want_planes : FnScope ["planes"] ["planes"] (defScope s_want_planes) := ⟨rfl, rfl, rfl, by decide +kernel, rfl, by decide +kernel, by decide +kernel⟩
def Ok_want_planes (P : Program) (w : World) (K : PySem.W.Frag) (mg : Str → Option Value) (base : Heap) : Prop := ∃ fA fd, Fn P w K mg base (L2.CX P w) 1 "want_planes" s_want_planes fA fd ["planes"] (sp_want_planes K mg)
theorem okx_want_planes (Z : Zs K mg) {fA : Addr} {fd : FuncData} (F : Fun K "want_planes" "want_planes" s_want_planes fA fd) (m : mg "want_planes" = some (.ref fA))  : Fn P w K mg base (L2.CX P w) 1 "want_planes" s_want_planes fA fd ["planes"] (sp_want_planes K mg) := by
  refine ⟨F.okX sc_want_planes (fun vs H Q E h => h.1) (fun cdv A outer s H vs Q E hr h => ?_), m, F.kp, F.binds fun _ _ _ _ _ _ us hl => match us, hl with | [_], _ => rfl, F⟩
  have hu64 := hr.units
  obtain ⟨hlen, h⟩ := h
  refine ⟨_, (pss_one (ps_if (pt_not (pt_chain op_le op_le pe_int (pv 0) (pe_glob (v := .int (20)) rfl Z.c_MOST_PLANES ⟨_, rfl⟩)))
      (pss_one (ps_raise rfl (takes_of rfl rfl rfl rfl) (pmk_own0 PySem.F.excBase_ValueError Z.x_Outside.x Z.x_Outside.g Z.x_Outside.k (raises_own Z.x_Outside.b Z.x_Outside.t) rfl)))
      pss_nil)), ?_⟩
  obtain ⟨p, rfl, h1, h2, q⟩ := h
  walk_at "r"
  refine ifd (fun _ => ?_) (fun h => absurd h (by omega))
  walk_at "r"
  refine ifn (fun _ => ?_) (fun h => absurd h2 h)
  walk_at "r"
  exact q
abbrev s_neighbours_of : Stmt := topS 38
theorem sc_neighbours_of : FnScope ["width", "height", "found", "place", "x", "y", "around", "a", "b"] ["width", "height"] (defScope s_neighbours_of) := ⟨rfl, rfl, rfl, by decide +kernel, rfl, by decide +kernel, by decide +kernel⟩
def Ok_neighbours_of (P : Program) (w : World) (K : PySem.W.Frag) (mg : Str → Option Value) (base : Heap) : Prop := ∃ fA fd, Fn P w K mg base (L2.CX P w) 1 "neighbours_of" s_neighbours_of fA fd ["width", "height"] (sp_neighbours_of K mg)
theorem okx_neighbours_of (Z : Zs K mg) {fA : Addr} {fd : FuncData} (F : Fun K "neighbours_of" "neighbours_of" s_neighbours_of fA fd) (m : mg "neighbours_of" = some (.ref fA))  : Fn P w K mg base (L2.CX P w) 1 "neighbours_of" s_neighbours_of fA fd ["width", "height"] (sp_neighbours_of K mg) := by
  refine ⟨F.okX sc_neighbours_of (fun vs H Q E h => h.1) (fun cdv A outer s H vs Q E hr h => ?_), m, F.kp, F.binds fun _ _ _ _ _ _ us hl => match us, hl with | [_, _], _ => rfl, F⟩
  have hu64 := hr.units
  obtain ⟨hlen, h⟩ := h
  refine ⟨_, (pss_cons (ps_set (i := 2) sc_neighbours_of.nd rfl (Or.inl rfl) (pe_lst pa_nil))
    (pss_cons (ps_for (passes_of rfl) rfl (pi_range1 rfl Z.z_range (pa_cons (pe_op op_mul (pv 0) (pv 1)) pa_nil)) (pg_name (i := 3) sc_neighbours_of.nd rfl (Or.inl rfl))
      (pss_cons (ps_par (i := 4) (j := 5) (by rfl) sc_neighbours_of.nd rfl rfl (by decide) rfl rfl (pa_cons (pe_op op_mod (pv 3) (pv 0)) (pa_cons (pe_op op_fdiv (pv 3) (pv 0)) pa_nil)) (by rfl))
    (pss_cons (ps_set (i := 6) sc_neighbours_of.nd rfl (Or.inl rfl) (pe_lst (pa_cons (pe_tup (pa_cons (pe_op op_sub (pv 4) pe_int) (pa_cons (pv 5) pa_nil))) (pa_cons (pe_tup (pa_cons (pe_op op_add (pv 4) pe_int) (pa_cons (pv 5) pa_nil))) (pa_cons (pe_tup (pa_cons (pv 4) (pa_cons (pe_op op_sub (pv 5) pe_int) pa_nil))) (pa_cons (pe_tup (pa_cons (pv 4) (pa_cons (pe_op op_add (pv 5) pe_int) pa_nil))) pa_nil))))))
    (pss_one (ps_expr (pe_bm PySem.F.plainAttrs_list PySem.F.slot_list_append PySem.F.type_list_append mt_append (pv 2) (pa_cons (pe_lc (own := [("a", 7), ("b", 8)]) (g := gTup K 2 (gCons (gName 7) (gCons (gName 8) gNil))) (tt := _) (by rfl) sc_neighbours_of.nd (pi_list (pv 6)) (blkOk_by (own := [("a", 7), ("b", 8)]) (N := ["width", "height", "found", "place", "x", "y", "around", "a", "b"]) (sc := defScope s_neighbours_of) (by decide +kernel)) (fun _ _ _ _ _ => (pg_tup rfl (pgs_cons (pg_name (i := 7) sc_neighbours_of.nd rfl (Or.inl rfl) (Or.inr rfl)) (pgs_cons (pg_name (i := 8) sc_neighbours_of.nd rfl (Or.inl rfl) (Or.inr rfl)) pgs_nil)))) (fun _ _ _ _ _ => pts_one (PW.pt (pw_and (pt_chain op_le op_lt pe_int (pv 7) (pv 0)) (pw_and1 (pt_chain op_le op_lt pe_int (pv 8) (pv 1)))))) (fun _ _ _ _ _ => (pe_op op_add (pe_op op_mul (pv 8) (pv 0)) (pv 7)))) pa_nil)))))))
    (pss_one (ps_ret (pv 2))))), ?_⟩
  obtain ⟨F, w, h, rfl, hF, hwh, hw1, hh1, q⟩ := h
  walk_at "r"
  refine ⟨sz (by simp), fun fl hfl => ?_⟩
  have stA : Stp S0 F H F (upd H fl (.lst [])) := Stp.cell hF hfl
  have nF : F fl = none := hF.free hfl
  walk_at "r"
  have ewh : (w : Int) * (h : Int) = ((w * h : Nat) : Int) := by simp
  rw [ewh]
  refine ⟨_, rfl, by omega, by omega, ?_⟩
  rw [Int.toNat_natCast]
  refine forR (fun i σ H' => ∃ v3 v4 v5 v6, σ = [some (.int w), some (.int h), some (.ref fl), v3, v4, v5, v6, none, none] ∧ ∃ (Fc : Hp) (rows : List Addr), Stp S0 F H Fc H' ∧ Fc fl = none ∧ H' fl = some (.lst (rows.map V.ref)) ∧ RowsAt Fc rows ((List.range i).map (besideL w h))) ⟨_, _, _, _, rfl, F, [], stA, nF, upd_same, rfl, fun i row e => by cases e⟩ ?_ ?_
  · rintro i σ H1 hi ⟨v3, v4, v5, v6, rfl, F1, rows, st1, n1, e1, hr⟩
    have ei : (0 : Int) + (i : Int) = ((i : Nat) : Int) := by omega
    have hw0 : 0 < w := Nat.pos_of_ne_zero fun z => by rw [z, Nat.zero_mul] at hi; omega
    dsimp only
    rw [ei]
    walk_at "r"
    have ed : (i : Int) / (w : Int) = ((i / w : Nat) : Int) := by simp
    have em : (i : Int) % (w : Int) = ((i % w : Nat) : Int) := by simp
    rw [ed, em]
    obtain ⟨x, hx⟩ : ∃ x : Nat, i % w = x := ⟨_, rfl⟩
    obtain ⟨y, hy⟩ : ∃ y : Nat, i / w = y := ⟨_, rfl⟩
    have hxw : x < w := by rw [← hx]; exact Nat.mod_lt _ hw0
    have hyh : y < h := by rw [← hy]; exact Nat.div_lt_of_lt_mul hi
    have hA : arnd w i = [((x : Int) - 1, (y : Int)), ((x : Int) + 1, (y : Int)), ((x : Int), (y : Int) - 1), ((x : Int), (y : Int) + 1)] := by unfold arnd; rw [hx, hy]
    rw [hx, hy]
    have step : ∀ {Fa Ha : Hp} (o : HO) (p : Addr), Stp S0 F H Fa Ha → Ha p = none → ∃ Fb, Stp S0 F H Fb (upd Ha p o) ∧ Stp S0 Fa Ha Fb (upd Ha p o) ∧ Fb p = some o := fun o p st hp => ⟨_, st.trans (Stp.new st.fh hp), Stp.new st.fh hp, upd_same⟩
    refine ⟨sz (by simp), fun p1 hp1 => ?_⟩
    obtain ⟨F2, st2, t2, g2⟩ := step (.tup [.int ((x : Int) - 1), .int (y : Int)]) p1 st1 hp1
    generalize upd H1 p1 (.tup [.int ((x : Int) - 1), .int (y : Int)]) = H2 at st2 t2 ⊢
    walk_at "r"
    refine ⟨sz (by simp), fun p2 hp2 => ?_⟩
    obtain ⟨F3, st3, t3, g3⟩ := step (.tup [.int ((x : Int) + 1), .int (y : Int)]) p2 st2 hp2
    generalize upd H2 p2 (.tup [.int ((x : Int) + 1), .int (y : Int)]) = H3 at st3 t3 ⊢
    walk_at "r"
    refine ⟨sz (by simp), fun p3 hp3 => ?_⟩
    obtain ⟨F4, st4, t4, g4⟩ := step (.tup [.int (x : Int), .int ((y : Int) - 1)]) p3 st3 hp3
    generalize upd H3 p3 (.tup [.int (x : Int), .int ((y : Int) - 1)]) = H4 at st4 t4 ⊢
    walk_at "r"
    refine ⟨sz (by simp), fun p4 hp4 => ?_⟩
    obtain ⟨F5, st5, t5, g5⟩ := step (.tup [.int (x : Int), .int ((y : Int) + 1)]) p4 st4 hp4
    generalize upd H4 p4 (.tup [.int (x : Int), .int ((y : Int) + 1)]) = H5 at st5 t5 ⊢
    walk_at "r"
    refine ⟨sz (by simp), fun p5 hp5 => ?_⟩
    obtain ⟨F6, st6, t6, g6⟩ := step (.lst [.ref p1, .ref p2, .ref p3, .ref p4]) p5 st5 hp5
    generalize upd H5 p5 (.lst [.ref p1, .ref p2, .ref p3, .ref p4]) = H6 at st6 t6 ⊢
    have t26 := t3.trans (t4.trans (t5.trans t6))
    have T := t2.trans t26
    replace g2 := st6.fh _ _ (t26.ff _ _ g2)
    replace g3 := st6.fh _ _ ((t4.trans (t5.trans t6)).ff _ _ g3)
    replace g4 := st6.fh _ _ ((t5.trans t6).ff _ _ g4)
    replace g5 := st6.fh _ _ (t6.ff _ _ g5)
    replace g6 := st6.fh _ _ g6
    have e6 := T.same _ _ e1
    have n6 : F6 fl = none := by rw [T.fo _ _ e1]; exact n1
    replace hr := hr.mono T.ff
    clear t2 t3 t4 t5 t6 t26 T st2 st3 st4 st5 hp1 hp2 hp3 hp4 hp5 step
    walk_at "r"
    refine ⟨.inl ⟨rfl, _, SqL.of e6⟩, ?_⟩
    walk_at "r"
    refine ⟨p5, rfl, ⟨_, SqL.of g6⟩, ?_⟩
    refine lcW (walk_list (xs := [.ref p1, .ref p2, .ref p3, .ref p4])) S0 (Same.refl H6) (fun _ z => z.elim) (fun _ _ st => SqL.of (st.same _ _ g6)) (fun j acc F1 H1 => acc = (((arnd w i).take j).filter (inB w h)).map fun ab => V.int (ab.2 * (w : Int) + ab.1)) (fun _ _ _ _ _ _ _ _ _ r => r) rfl ?_ ?_
    · rintro j v acc d F7 H7 H8 hj ⟨rfl, hv⟩ hd nS st7 f0 e hl7 rr
      obtain ⟨pj, ab, rfl, hab, hA2⟩ : ∃ pj ab, v = .ref pj ∧ H6 pj = some (.tup [.int ab.1, .int ab.2]) ∧ (arnd w i)[j]? = some ab := by
        rw [hA]
        match j, hj, hv with
        | 0, _, hv => cases hv; exact ⟨_, _, rfl, g2, rfl⟩
        | 1, _, hv => cases hv; exact ⟨_, _, rfl, g3, rfl⟩
        | 2, _, hv => cases hv; exact ⟨_, _, rfl, g4, rfl⟩
        | 3, _, hv => cases hv; exact ⟨_, _, rfl, g5, rfl⟩
      have hj4 : j < 4 := hj
      obtain ⟨aa, bb⟩ := ab
      dsimp only at hab
      have no : inB w h (aa, bb) = false → LcP S0 H6 H6 d (fun j acc F1 H1 => acc = (((arnd w i).take j).filter (inB w h)).map fun ab => V.int (ab.2 * (w : Int) + ab.1)) (j + 1) H8 := fun hn => by
        refine lc_skip hd nS st7 f0 e hl7 (.rfl' st7.fh) ?_
        rw [rr, List.take_succ, hA2]
        simp [hn]
      refine s_gtup (.of (st7.same _ _ hab)) rfl ?_
      walk_at "r"
      have ib : inB w h (aa, bb) = (decide (0 ≤ aa) && decide (aa < (w : Int)) && (decide (0 ≤ bb) && decide (bb < (h : Int)))) := rfl
      refine ifd (fun c1 => ?_) (fun c1 => ?_)
      rotate_left
      · walk_at "r"
        exact no (by rw [ib, decide_eq_false c1]; simp)
      walk_at "r"
      refine ifd (fun c2 => ?_) (fun c2 => ?_)
      rotate_left
      · walk_at "r"
        exact no (by rw [ib, decide_eq_false c2]; simp)
      walk_at "r"
      refine ifd (fun c3 => ?_) (fun c3 => ?_)
      rotate_left
      · walk_at "r"
        exact no (by rw [ib, decide_eq_false c3]; simp)
      walk_at "r"
      refine ifd (fun c4 => ?_) (fun c4 => ?_)
      rotate_left
      · walk_at "r"
        exact no (by rw [ib, decide_eq_false c4]; simp)
      have ibt : inB w h (aa, bb) = true := by rw [ib, decide_eq_true c1, decide_eq_true c2, decide_eq_true c3, decide_eq_true c4]; rfl
      walk_at "r"
      refine lc_end hd nS st7 f0 e hl7 (by omega) (.rfl' st7.fh) ?_
      rw [rr, List.take_succ, hA2]
      simp [ibt]
    · intro d acc F7 F8 H7 st7 hd f0 ef st8 hl7 rr
      have hd1 : H7 d = some (.lst acc) := by rw [ef] at st8; exact st8.fh _ _ upd_same
      have hlen4 : (arnd w i).length = 4 := by rw [hA]; rfl
      rw [show ([V.ref p1, .ref p2, .ref p3, .ref p4] : List V).length = (arnd w i).length by rw [hlen4]; rfl, List.take_length] at rr
      have hrow : acc = (besideL w h i).map fun (n : Nat) => V.int (n : Int) := by
        rw [rr]
        unfold besideL
        rw [List.map_map]
        refine List.map_congr_left fun ab hab => ?_
        obtain ⟨m1, m2⟩ := List.mem_filter.mp hab
        unfold inB at m2
        simp only [Bool.and_eq_true, decide_eq_true_iff] at m2
        show V.int _ = V.int (((ab.2 * (w : Int) + ab.1).toNat : Nat) : Int)
        rw [Int.toNat_of_nonneg]
        have : 0 ≤ ab.2 * (w : Int) := Int.mul_nonneg m2.2.1 (by omega)
        omega
      walk_at "r"
      have ndf : d ≠ fl := fun z => by rw [z, e6] at hd; cases hd
      have e7 : H7 fl = some (.lst (rows.map V.ref)) := st7.same _ _ e6
      have hle : rows.length ≤ 1000 := by rw [hr.1, List.length_map, List.length_range]; omega
      refine ⟨fl, _, _, rfl, rfl, e7, Nat.lt_of_lt_of_le (m := 10000) (by rw [List.length_map]; omega) (by decide), ?_⟩
      obtain ⟨F9, st9, g9, n9, ff9⟩ : ∃ F9, Stp S0 F H F9 H7 ∧ F9 d = some (.lst acc) ∧ F9 fl = none ∧ Same F6 F9 := by
        have a1 : Stp S0 F H F6 H7 := st6.trans (Stp.ofSame st6.fh st7.same)
        have hd6 : H d = none := none_of' st6 hd
        refine ⟨upd F6 d (.lst acc), a1.freeze hd6 hd1 (st6.fh.free hd), upd_same, by rw [upd_ne ndf.symm]; exact n6, fun b o eb => by rw [upd_ne (fun z => by rw [z, st6.fh.free hd] at eb; cases eb)]; exact eb⟩
      have stw : Stp (fun c => c = fl) F9 H7 F9 (upd H7 fl (.lst (rows.map V.ref ++ [.ref d]))) := Stp.wr st9.fh rfl n9
      refine ⟨_, _, _, _, rfl, F9, rows ++ [d], st9.transN stw (fun c hc => .inr (by rw [hc]; exact hfl)), n9, by rw [upd_same, List.map_append]; rfl, ?_⟩
      rw [List.range_succ, List.map_append]
      exact (hr.mono ff9).snoc (by rw [g9, hrow])
  · rintro σ H1 ⟨v3, v4, v5, v6, rfl, F1, rows, st1, n1, e1, hr⟩
    walk_at "r"
    exact q (upd F1 fl (.lst (rows.map V.ref))) H1 fl rows (st1.freeze hfl e1 n1) upd_same (hr.mono fun b o eb => by rw [upd_ne (fun z => by rw [z, n1] at eb; cases eb)]; exact eb)
abbrev s_LineModel__is_near : Stmt := inClass (topS 39) 1
theorem sc_LineModel__is_near : FnScope ["self", "place", "other"] ["self", "place"] (defScope s_LineModel__is_near) := ⟨rfl, rfl, rfl, by decide +kernel, rfl, by decide +kernel, by decide +kernel⟩
def Ok_LineModel__is_near (P : Program) (w : World) (K : PySem.W.Frag) (mg : Str → Option Value) (base : Heap) : Prop := ∃ fA fd, FnC P w K mg base (L2.CX P w) 1 "_is_near" "LineModel._is_near" s_LineModel__is_near fA fd ["self", "place"] (sp_LineModel__is_near K mg) ∧ Meth K (exA mg "LineModel") "_is_near" fA
theorem okx_LineModel__is_near (Z : Zs K mg) {fA : Addr} {fd : FuncData} (F : Fun K "_is_near" "LineModel._is_near" s_LineModel__is_near fA fd)  : FnC P w K mg base (L2.CX P w) 1 "_is_near" "LineModel._is_near" s_LineModel__is_near fA fd ["self", "place"] (sp_LineModel__is_near K mg) := by
  refine ⟨F.okX sc_LineModel__is_near (fun vs H Q E h => h.1) (fun cdv A outer s H vs Q E hr h => ?_), F.binds fun _ _ _ _ _ _ us hl => match us, hl with | [_, _], _ => rfl, F⟩
  have hu64 := hr.units
  obtain ⟨hlen, h⟩ := h
  refine ⟨_, (pss_one (ps_ret (pe_callB (c_any K rfl rfl) (by rfl) Z.z_any (by decide +kernel) (pa_cons (pe_lc (own := [("other", 2)]) (g := gName 2) (tt := tYes) (by rfl) sc_LineModel__is_near.nd (pi_list (pe_ix (i_list K rfl) (pe_fld (pv 0) rfl) (pv 1) (fun _ _ => rfl))) (blkOk_by (own := [("other", 2)]) (N := ["self", "place", "other"]) (sc := defScope s_LineModel__is_near) (by decide +kernel)) (fun _ _ _ _ _ => (pg_name (i := 2) sc_LineModel__is_near.nd rfl (Or.inl rfl))) (fun _ _ _ _ _ => pts_nil) (fun _ _ _ _ _ => (pe_cmpR op_ne (pe_ix (i_list K rfl) (pe_fldK K rfl (pv 0) rfl) (pv 2) (fun _ _ => rfl)) pe_int (nomark _)))) pa_nil)))), ?_⟩
  obtain ⟨a, p, around, signs, rfl, ⟨dx, ar, sg, fs, rows, h1, h2, h3, h4, h5, h6, h7, h8⟩, np, hp, q⟩ := h
  obtain ⟨rq, er, hr⟩ := h8.2 p _ (row_get hp [])
  have hrow := np.ar _ (List.mem_of_getElem? (row_get hp []))
  have hnb : nearB around signs p = (around.getD p []).any fun o => !decide (signs.getD o 0 = 0) := rfl
  generalize around.getD p [] = row at hr hrow hnb
  walk_at "r"
  refine ⟨a, _, dx, fs, _, rfl, h1, Z.o_LineModel.cl, Z.n_LineModel__around, h3, ?_⟩
  walk_at "r"
  refine s_ixL (.of h7) (at_nat' (by rw [List.getElem?_map, er]; rfl)) ?_
  refine ⟨rq, rfl, ⟨_, SqL.of hr⟩, ?_⟩
  refine lcW (walk_list (xs := row.map fun (n : Nat) => V.int (n : Int))) S0 (Same.refl H) (fun _ z => z.elim) (fun _ _ st => st.same.seq (SqL.of hr)) (fun i acc F1 H1 => acc = (row.take i).map fun o => V.bl (!decide (signs.getD o 0 = 0))) (fun _ _ _ _ _ _ _ _ _ r => r) rfl ?_ ?_
  · rintro i x acc d F1 H1 H2 hi ⟨rfl, hx⟩ hd nS st f0 e hl rr
    rw [List.length_map] at hi
    rw [List.getElem?_map, List.getElem?_eq_getElem hi] at hx
    cases hx
    have ho : row[i] < signs.length := by rw [np.sg]; exact hrow.2 _ (List.getElem_mem hi)
    have hg := List.getElem?_eq_getElem hi
    generalize row[i] = o at ho hg
    walk_at "r"
    refine ⟨a, _, dx, fs, _, rfl, st.same _ _ h1, Z.o_LineModel.cl, Z.n_LineModel__signs, h2, ?_⟩
    walk_at "r"
    refine s_ixL (.of (st.same _ _ h6)) (sg_at ho) ?_
    walk_at "r"
    refine lc_end hd nS st f0 e hl (by omega) (.rfl' st.fh) ?_
    rw [rr, List.take_succ, hg]
    simp
  · intro d acc F0 F1 H1 st hd f0 ef st1 hl rr
    have hd1 : H1 d = some (.lst acc) := by rw [ef] at st1; exact st1.fh _ _ upd_same
    rw [List.length_map, List.take_length] at rr
    walk_at "r"
    refine ⟨d, row.map fun o => !decide (signs.getD o 0 = 0), rfl, .of ?_, ?_⟩
    · rw [hd1, rr, List.map_map]; rfl
    · rw [any_map, ← hnb]
      exact q H1 st.same
abbrev s_LineModel__turns_of_plane : Stmt := inClass (topS 39) 2
theorem sc_LineModel__turns_of_plane : FnScope ["self", "kinds", "place", "kind"] ["self"] (defScope s_LineModel__turns_of_plane) := ⟨rfl, rfl, rfl, by decide +kernel, rfl, by decide +kernel, by decide +kernel⟩
def Ok_LineModel__turns_of_plane (P : Program) (w : World) (K : PySem.W.Frag) (mg : Str → Option Value) (base : Heap) : Prop := ∃ fA fd, FnC P w K mg base (L2.CX P w) 2 "_turns_of_plane" "LineModel._turns_of_plane" s_LineModel__turns_of_plane fA fd ["self"] (sp_LineModel__turns_of_plane K mg) ∧ Meth K (exA mg "LineModel") "_turns_of_plane" fA
theorem okx_LineModel__turns_of_plane (Z : Zs K mg) {fA : Addr} {fd : FuncData} (F : Fun K "_turns_of_plane" "LineModel._turns_of_plane" s_LineModel__turns_of_plane fA fd) (C_LineModel__is_near : Ok_LineModel__is_near P w K mg base) : FnC P w K mg base (L2.CX P w) 2 "_turns_of_plane" "LineModel._turns_of_plane" s_LineModel__turns_of_plane fA fd ["self"] (sp_LineModel__turns_of_plane K mg) := by
  obtain ⟨_, _, C_LineModel__is_near, M_LineModel__is_near⟩ := C_LineModel__is_near
  refine ⟨F.okX sc_LineModel__turns_of_plane (fun vs H Q E h => h.1) (fun cdv A outer s H vs Q E hr h => ?_), F.binds fun _ _ _ _ _ _ us hl => match us, hl with | [_], _ => rfl, F⟩
  have hu64 := hr.units
  obtain ⟨hlen, h⟩ := h
  refine ⟨_, (pss_cons (ps_set (i := 1) sc_LineModel__turns_of_plane.nd rfl (Or.inr rfl) (pe_lst pa_nil))
    (pss_cons (ps_for (passes_of rfl) rfl (pi_range1 rfl Z.z_range (pa_cons (pe_callB (c_len K rfl) (by rfl) Z.z_len (by decide +kernel) (pa_cons (pe_fld (pv 0) rfl) pa_nil)) pa_nil)) (pg_name (i := 2) sc_LineModel__turns_of_plane.nd rfl (Or.inl rfl))
      (pss_one (ps_expr (pe_bm PySem.F.plainAttrs_list PySem.F.slot_list_append PySem.F.type_list_append mt_append (pv 1) (pa_cons (pe_ifExp (pt_cmpR op_ne (pe_ix (i_list K rfl) (pe_fld (pv 0) rfl) (pv 2) (fun _ _ => rfl)) pe_int (nomark _)) (pe_glob (v := .int (1)) rfl Z.c_SHARPER ⟨_, rfl⟩) (pe_ifExp (pt_val (pe_meth (pv 0) Z.o_LineModel.cl M_LineModel__is_near C_LineModel__is_near.G (hr.mono (by decide)) C_LineModel__is_near.b .nil passL (pa_cons (pv 2) pa_nil))) (pe_glob (v := .int (0)) rfl Z.c_NEAR ⟨_, rfl⟩) (pe_glob (v := .int (2)) rfl Z.c_FAR ⟨_, rfl⟩))) pa_nil)))))
    (pss_one (ps_ret (pe_lc2 (own := [("kind", 3), ("place", 2)]) (vs1 := [2]) (g := gName 3) (g1 := gName 2) (tt := tYes) (tt1 := _) (by rfl) sc_LineModel__turns_of_plane.nd (pi_tup (pe_tup (pa_cons (pe_glob (v := .int (0)) rfl Z.c_NEAR ⟨_, rfl⟩) (pa_cons (pe_glob (v := .int (1)) rfl Z.c_SHARPER ⟨_, rfl⟩) (pa_cons (pe_glob (v := .int (2)) rfl Z.c_FAR ⟨_, rfl⟩) pa_nil))))) (blkOk_by (own := [("kind", 3), ("place", 2)]) (N := ["self", "kinds", "place", "kind"]) (sc := defScope s_LineModel__turns_of_plane) (by decide +kernel)) (by decide) (fun _ _ _ _ _ => (pg_name (i := 3) sc_LineModel__turns_of_plane.nd rfl (Or.inl rfl))) (fun _ _ _ _ _ => pts_nil) (fun _ _ _ _ _ => (pi_range1 rfl Z.z_range (pa_cons (pe_callB (c_len K rfl) (by rfl) Z.z_len (by decide +kernel) (pa_cons (pv 1) pa_nil)) pa_nil))) (fun _ _ _ _ _ => (pg_name (i := 2) sc_LineModel__turns_of_plane.nd rfl (Or.inl rfl))) (fun _ _ _ _ _ => pts_one (pt_cmpR op_eq (pe_ix (i_list K rfl) (pv 1) (pv 2) (fun _ _ => rfl)) (pv 3) (nomark _))) (fun _ _ _ _ _ => (pe_tup (pa_cons (pv 3) (pa_cons (pv 2) pa_nil))))))))), ?_⟩
  obtain ⟨F, a, around, signs, rfl, hF, no, np, q⟩ := h
  obtain ⟨dx, ar, sg, fs, rows, h1, h2, h3, h4, h5, h6, h7, h8⟩ := id no
  walk_at "r"
  refine ⟨sz (by simp), fun kl hkl => ?_⟩
  have stA : Stp S0 F H F (upd H kl (.lst [])) := Stp.cell hF hkl
  have nF : F kl = none := hF.free hkl
  walk_at "r"
  refine ⟨a, _, dx, fs, _, rfl, stA.same _ _ h1, Z.o_LineModel.cl, Z.n_LineModel__around, h3, ?_⟩
  walk_at "r"
  refine s_len (.of (stA.same _ _ h7)) ?_
  walk_at "r"
  rw [List.length_map, h8.1]
  have hbig := np.big
  refine ⟨_, rfl, by omega, by omega, ?_⟩
  rw [Int.toNat_natCast]
  refine forR (fun i σ H' => ∃ v2, σ = [some (.ref a), some (.ref kl), v2, none] ∧ Stp S0 F H F H' ∧ H' kl = some (.lst ((List.range i).map fun p => V.int (kindAt around signs p : Nat)))) ⟨_, rfl, stA, upd_same⟩ ?_ ?_
  · rintro i σ H' hi ⟨v2, rfl, st, hk⟩
    have ei : (0 : Int) + (i : Int) = ((i : Nat) : Int) := by omega
    dsimp only
    rw [ei]
    walk_at "r"
    refine ⟨.inl ⟨rfl, _, SqL.of hk⟩, ?_⟩
    walk_at "r"
    refine ⟨a, _, dx, fs, _, rfl, st.same _ _ h1, Z.o_LineModel.cl, Z.n_LineModel__signs, h2, ?_⟩
    walk_at "r"
    refine s_ixL (.of (st.same _ _ h6)) (sg_at (by rw [np.sg]; exact hi)) ?_
    walk_at "r"
    have fin : ∀ (k : Int) (H2 : Hp), Same H' H2 → k = (kindAt around signs i : Nat) → ∃ l xs y, V.ref kl = V.ref l ∧ [V.int k] = [y] ∧ H2 l = some (.lst xs) ∧ xs.length < sizeLine ∧ ∃ v2, [some (V.ref a), some (V.ref kl), some (V.int (i : Int)), none] = [some (V.ref a), some (V.ref kl), v2, none] ∧ Stp S0 F H F (upd H2 l (.lst (xs ++ [y]))) ∧ (upd H2 l (.lst (xs ++ [y]))) kl = some (.lst ((List.range (i + 1)).map fun p => V.int (kindAt around signs p : Nat))) := fun k H2 s2 ek => by
      refine ⟨kl, _, _, rfl, rfl, s2 _ _ hk, Nat.lt_of_lt_of_le (m := 10000) (by rw [List.length_map, List.length_range]; omega) (by decide), _, rfl, ?_, ?_⟩
      · have st2 : Stp S0 F H' F H2 := Stp.ofSame st.fh s2
        have st3 : Stp (fun c => c = kl) F H2 F (upd H2 kl (.lst ((List.range i).map (fun p => V.int (kindAt around signs p : Nat)) ++ [V.int k]))) := Stp.wr st2.fh rfl nF
        exact Stp.transN (st.trans st2) st3 fun c hc => .inr (by rw [hc]; exact hkl)
      · rw [upd_same, List.range_succ, List.map_append, ek]; rfl
    refine ifn (fun hz => ?_) (fun hz => ?_)
    · walk_at "r"
      refine ⟨a, dx, fs, rfl, st.same _ _ h1, h4, ?_⟩
      walk_at "r"
      refine ⟨rfl, a, i, around, signs, rfl, no.mono st.same, np, hi, fun H2 s2 => ?_⟩
      cases hn : nearB around signs i with
      | true =>
        walk_at "r"
        exact fin 0 H2 s2 (by unfold kindAt; rw [if_pos hz, if_pos hn]; rfl)
      | false =>
        walk_at "r"
        exact fin 2 H2 s2 (by unfold kindAt; rw [if_pos hz, if_neg (by rw [hn]; decide)]; rfl)
    · walk_at "r"
      exact fin 1 H' (Same.refl _) (by unfold kindAt; rw [if_neg hz]; rfl)
  · rintro σ H' ⟨v2, rfl, st, hk⟩
    have stF := st.freeze hkl hk nF
    have hkF : upd F kl (.lst ((List.range around.length).map fun p => V.int (kindAt around signs p : Nat))) kl = some (.lst ((List.range around.length).map fun p => V.int (kindAt around signs p : Nat))) := upd_same
    generalize upd F kl (.lst ((List.range around.length).map fun p => V.int (kindAt around signs p : Nat))) = F1 at stF hkF
    walk_at "r"
    refine s_lc2 ?_
    walk_at "r"
    refine ⟨sz (by simp), fun tq htq => ?_⟩
    have stG : Stp S0 F1 H' (upd F1 tq (.tup [.int 0, .int 1, .int 2])) (upd H' tq (.tup [.int 0, .int 1, .int 2])) := Stp.new stF.fh htq
    have hkG := stG.ff _ _ hkF
    have htG : upd F1 tq (.tup [.int 0, .int 1, .int 2]) tq = some (.tup [.int 0, .int 1, .int 2]) := upd_same
    have stH := stF.trans stG
    generalize upd F1 tq (.tup [.int 0, .int 1, .int 2]) = F2 at stG stH hkG htG
    generalize upd H' tq (.tup [.int 0, .int 1, .int 2]) = H2 at stG stH ⊢
    clear stG stF
    refine ⟨tq, rfl, ⟨_, SqT.of (stH.fh _ _ htG)⟩, ?_⟩
    refine lc2W (walk_tup (xs := [.int 0, .int 1, .int 2])) around.length S0 stH.fh (fun _ z => z.elim) (fun F1 H1 st => SqT.of (st.same _ _ (stH.fh _ _ htG))) (fun (i : Nat) (acc : List V) (F1 _ : Hp) => ∃ tus : List Addr, acc = tus.map V.ref ∧ TusAt F1 tus (preT around signs i)) (fun _ _ _ _ _ _ _ _ _ r => r) ⟨[], rfl, rfl, fun i kp e => by cases e⟩ ?_ ?_
    · rintro i x acc d F3 H3 H4 hi ⟨rfl, hx⟩ hd nS st3 f0 e hl r
      have ex : x = .int (i : Nat) := by
        match i, hi, hx with
        | 0, _, h => cases h; rfl
        | 1, _, h => cases h; rfl
        | 2, _, h => cases h; rfl
      have hi3 : i < 3 := hi
      subst ex
      walk_at "r"
      refine s_len (.of (st3.same _ _ (stH.fh _ _ hkG))) ?_
      walk_at "r"
      rw [List.length_map, List.length_range]
      refine ⟨_, rfl, by omega, by omega, ?_⟩
      rw [Int.toNat_natCast]
      refine lc2_in walk_range (fun _ _ _ => trivial) ⟨⟨F3, acc, st3, f0, e, hl, r⟩, hd⟩ ?_
      rintro j y acc4 F4 H4 H5 hj ⟨rfl, rfl⟩ st4 f4 e4 hl4 ⟨tus, rfl, htus⟩
      have ej : (0 : Int) + (j : Int) = ((j : Nat) : Int) := by omega
      dsimp only
      rw [ej]
      have hij : i * around.length + j < 3 * around.length := by
        have : (i + 1) * around.length ≤ 3 * around.length := Nat.mul_le_mul_right _ hi3
        rw [Nat.succ_mul] at this
        omega
      walk_at "r"
      refine s_ixL (.of (st4.same _ _ (stH.fh _ _ hkG))) (at_nat' (by rw [List.getElem?_map, List.getElem?_range hj]; rfl)) ?_
      walk_at "r"
      have hps := preT_succ around signs (i := i) hj
      refine ifd (fun h => ?_) (fun h => ?_)
      · rw [if_pos (by omega)] at hps
        walk_at "r"
        refine ⟨sz (by simp), fun q5 hq5 => ?_⟩
        refine lc_end hd nS st4 f4 e4 hl4 (by omega) (Stp.new st4.fh hq5) ⟨tus ++ [q5], by simp, ?_⟩
        rw [hps]
        exact (htus.mono (Stp.new (S := S0) (o := .tup [.int (i : Int), .int (j : Int)]) st4.fh hq5).ff).snoc upd_same
      · rw [if_neg (by omega), List.append_nil] at hps
        exact lc_skip hd nS st4 f4 e4 hl4 (.rfl' st4.fh) ⟨tus, rfl, by rw [hps]; exact htus⟩
    · rintro d acc F3 F4 H3 st3 hd f0 ef st4 hl ⟨tus, rfl, htus⟩
      have hall := preT_all around signs
      refine q F4 H3 d tus (stH.trans st4) (by rw [ef, upd_same]) ?_
      rw [← hall, ef]
      exact htus.mono fun b o eb => by rw [upd_ne (fun h => by rw [h, f0] at eb; cases eb)]; exact eb
abbrev s_LineModel___init__ : Stmt := inClass (topS 39) 0
theorem sc_LineModel___init__ : FnScope ["self", "rect", "planes", "x0", "x1", "y0", "y1", "many"] ["self", "rect", "planes"] (defScope s_LineModel___init__) := ⟨rfl, rfl, rfl, by decide +kernel, rfl, by decide +kernel, by decide +kernel⟩
def Ok_LineModel___init__ (P : Program) (w : World) (K : PySem.W.Frag) (mg : Str → Option Value) (base : Heap) : Prop := ∃ fA fd, FnC P w K mg base (L2.CX P w) 3 "__init__" "LineModel.__init__" s_LineModel___init__ fA fd ["self", "rect", "planes"] (sp_LineModel___init__ K mg) ∧ Mk K (exA mg "LineModel") fA
theorem okx_LineModel___init__ (Z : Zs K mg) {fA : Addr} {fd : FuncData} (F : Fun K "__init__" "LineModel.__init__" s_LineModel___init__ fA fd) (C_LineModel__turns_of_plane : Ok_LineModel__turns_of_plane P w K mg base) (C_Table___init__ : Ok_Table___init__ P w K mg base) (C_neighbours_of : Ok_neighbours_of P w K mg base) (C_want_planes : Ok_want_planes P w K mg base) (C_want_rect : Ok_want_rect P w K mg base) : FnC P w K mg base (L2.CX P w) 3 "__init__" "LineModel.__init__" s_LineModel___init__ fA fd ["self", "rect", "planes"] (sp_LineModel___init__ K mg) := by
  obtain ⟨_, _, C_LineModel__turns_of_plane, M_LineModel__turns_of_plane⟩ := C_LineModel__turns_of_plane
  obtain ⟨_, _, C_Table___init__, M_Table___init__⟩ := C_Table___init__
  obtain ⟨_, _, C_neighbours_of⟩ := C_neighbours_of
  obtain ⟨_, _, C_want_planes⟩ := C_want_planes
  obtain ⟨_, _, C_want_rect⟩ := C_want_rect
  refine ⟨F.okX sc_LineModel___init__ (fun vs H Q E h => h.1) (fun cdv A outer s H vs Q E hr h => ?_), F.binds fun _ _ _ _ _ _ us hl => match us, hl with | [_, _, _], _ => rfl, F⟩
  have hu64 := hr.units
  obtain ⟨hlen, h⟩ := h
  refine ⟨_, (pss_cons (ps_expr (pe_call C_want_rect.G (hr.mono (by decide)) rfl C_want_rect.m C_want_rect.kp C_want_rect.b .nil passL (pa_cons (pv 1) pa_nil)))
    (pss_cons (ps_expr (pe_call C_want_planes.G (hr.mono (by decide)) rfl C_want_planes.m C_want_planes.kp C_want_planes.b .nil passL (pa_cons (pv 2) pa_nil)))
    (pss_cons (ps_asg (pv 1) (pg_tup rfl (pgs_cons (pg_name (i := 3) sc_LineModel___init__.nd rfl (Or.inl rfl)) (pgs_cons (pg_name (i := 4) sc_LineModel___init__.nd rfl (Or.inl rfl)) (pgs_cons (pg_name (i := 5) sc_LineModel___init__.nd rfl (Or.inl rfl)) (pgs_cons (pg_name (i := 6) sc_LineModel___init__.nd rfl (Or.inl rfl)) pgs_nil))))))
    (pss_cons (ps_fld (pv 0) (pe_callTy call_tuple_of (by rfl) Z.z_tuple (by decide +kernel) (pa_cons (pv 1) pa_nil)) rfl)
    (pss_cons (ps_fld (pv 0) (pe_op op_mul pe_int (pv 2)) rfl)
    (pss_cons (ps_fld (pv 0) (pe_call C_neighbours_of.G (hr.mono (by decide)) rfl C_neighbours_of.m C_neighbours_of.kp C_neighbours_of.b .nil passL (pa_cons (pe_op op_sub (pv 4) (pv 3)) (pa_cons (pe_op op_sub (pv 6) (pv 5)) pa_nil))) rfl)
    (pss_cons (ps_set (i := 7) sc_LineModel___init__.nd rfl (Or.inl rfl) (pe_callB (c_len K rfl) (by rfl) Z.z_len (by decide +kernel) (pa_cons (pe_fld (pv 0) rfl) pa_nil)))
    (pss_cons (ps_fld (pv 0) (pe_lst (pa_cons (pe_make M_Table___init__ C_Table___init__.G (hr.mono (by decide)) rfl Z.o_Table.g C_Table___init__.b .nil passL (pa_cons pe_int pa_nil)) (pa_cons (pe_make M_Table___init__ C_Table___init__.G (hr.mono (by decide)) rfl Z.o_Table.g C_Table___init__.b .nil passL (pa_cons pe_int pa_nil)) (pa_cons (pe_make M_Table___init__ C_Table___init__.G (hr.mono (by decide)) rfl Z.o_Table.g C_Table___init__.b .nil passL (pa_cons pe_int pa_nil)) (pa_cons (pe_make M_Table___init__ C_Table___init__.G (hr.mono (by decide)) rfl Z.o_Table.g C_Table___init__.b .nil passL (pa_cons pe_int pa_nil)) (pa_cons (pe_make M_Table___init__ C_Table___init__.G (hr.mono (by decide)) rfl Z.o_Table.g C_Table___init__.b .nil passL (pa_cons pe_int pa_nil)) pa_nil)))))) rfl)
    (pss_cons (ps_fld (pv 0) (pe_op op_rep (pe_lst (pa_cons pe_int pa_nil)) (pv 7)) rfl)
    (pss_cons (ps_fld (pv 0) (pe_op op_rep (pe_lst (pa_cons pe_int pa_nil)) (pv 7)) rfl)
    (pss_cons (ps_fld (pv 0) (pe_op op_rep (pe_lst (pa_cons (pv 2) pa_nil)) (pv 7)) rfl)
    (pss_cons (ps_fld (pv 0) (pe_op op_rep (pe_lst (pa_cons (pv 2) pa_nil)) (pv 7)) rfl)
    (pss_cons (ps_fld (pv 0) (pe_ifExp (pt_cmpR op_gt (pv 7) pe_int (nomark _)) (pe_op op_sub (pv 2) pe_int) (pe_un un_neg pe_int)) rfl)
    (pss_cons (ps_fld (pv 0) (pe_meth0 (pv 0) Z.o_LineModel.cl M_LineModel__turns_of_plane C_LineModel__turns_of_plane.G (hr.mono (by decide)) C_LineModel__turns_of_plane.b .nil passL) rfl)
    (pss_one (ps_fld (pv 0) pe_int rfl)))))))))))))))), ?_⟩
  obtain ⟨F, a, dx, r, x0, y0, w, h, pl, rfl, hF, hr, ha, nFa, hw, hh, hwh, hp1, hp2, q⟩ := h
  have hw1 : w ≤ 1000 := Nat.le_trans (Nat.le_mul_of_pos_right w hh) hwh
  have hh1 : h ≤ 1000 := Nat.le_trans (Nat.le_mul_of_pos_left h hw) hwh
  have hwh0 : 0 < w * h := Nat.mul_pos hw hh
  obtain ⟨L, eL, z⟩ : ∃ L, L = [] ∧ Own F H a (exA mg "LineModel") dx F H [] L := ⟨[], rfl, .rfl' hF, ha, fun p hp => (by cases hp), by simp, fun b hb => (by rw [List.mem_singleton.mp hb]; exact nFa), fun p hp => (by cases hp)⟩
  walk_at "r"
  refine ⟨rfl, r, x0, x0 + w, y0, y0 + h, rfl, .of (hF _ _ hr), by omega, by omega, ?_⟩
  walk_at "r"
  refine ⟨rfl, pl, rfl, hp1, hp2, ?_⟩
  walk_at "r"
  refine s_gtup (.of (hF _ _ hr)) rfl ?_
  walk_at "r"
  refine ⟨r, _, rfl, .inr ⟨.of (hF _ _ hr), ?_⟩⟩
  walk_at "r"
  refine ⟨a, _, dx, _, rfl, z.o, Z.o_LineModel.cl, Z.n_LineModel__rect, (by show 0 < 1000; decide), ?_⟩
  generalize eX : upd H a _ = Ha
  replace z : Own F H a (exA mg "LineModel") dx F Ha [("_rect", V.ref r)] L := by
    rw [← eX]; exact z.fld [("_rect", V.ref r)]
  clear eX
  walk_at "r"
  refine ⟨a, _, dx, _, rfl, z.o, Z.o_LineModel.cl, Z.n_LineModel__last_pass, (by show 1 < 1000; decide), ?_⟩
  generalize eX : upd Ha a _ = Hb
  replace z : Own F H a (exA mg "LineModel") dx F Hb [("_rect", V.ref r), ("_last_pass", V.int (3 * pl))] L := by
    rw [← eX]; exact z.fld [("_rect", V.ref r), ("_last_pass", V.int (3 * pl))]
  clear eX
  walk_at "r"
  rw [show x0 + (w : Int) - x0 = (w : Int) by omega, show y0 + (h : Int) - y0 = (h : Int) by omega]
  refine ⟨rfl, F, w, h, rfl, z.st.fh, hwh, hw1, hh1, fun F1 Hc ar rows stc ear erows => ?_⟩
  replace z := z.stp stc
  have ffc := stc.ff
  have hrl : rows.length = w * h := by rw [erows.1, besideAll_len]
  walk_at "r"
  refine ⟨a, _, dx, _, rfl, z.o, Z.o_LineModel.cl, Z.n_LineModel__around, (by show 2 < 1000; decide), ?_⟩
  generalize eX : upd Hc a _ = Hd
  replace z : Own F H a (exA mg "LineModel") dx F1 Hd [("_rect", V.ref r), ("_last_pass", V.int (3 * pl)), ("_around", V.ref ar)] L := by
    rw [← eX]; exact z.fld [("_rect", V.ref r), ("_last_pass", V.int (3 * pl)), ("_around", V.ref ar)]
  clear eX
  walk_at "r"
  refine ⟨a, _, dx, _, _, rfl, z.o, Z.o_LineModel.cl, Z.n_LineModel__around, rfl, ?_⟩
  walk_at "r"
  refine s_len (.of (z.st.fh _ _ ear)) ?_
  walk_at "r"
  rw [List.length_map, hrl]
  refine tab3 fun t1 d1 l1 He1 s1 a1 b1 n1 o1 => ?_
  replace z := z.tab s1 a1 b1 n1 o1
  walk_at "r"
  refine tab3 fun t2 d2 l2 He2 s2 a2 b2 n2 o2 => ?_
  replace z := z.tab s2 a2 b2 n2 o2
  walk_at "r"
  refine tab3 fun t3 d3 l3 He3 s3 a3 b3 n3 o3 => ?_
  replace z := z.tab s3 a3 b3 n3 o3
  walk_at "r"
  refine tab2 fun t4 d4 l4 He4 s4 a4 b4 n4 o4 => ?_
  replace z := z.tab s4 a4 b4 n4 o4
  walk_at "r"
  refine tab2 fun t5 d5 l5 He5 s5 a5 b5 n5 o5 => ?_
  replace z := z.tab s5 a5 b5 n5 o5
  walk_at "r"
  refine ⟨sz (by simp), fun tl htl => ?_⟩
  have stt : Stp S0 F1 He5 (upd F1 tl (.lst [.ref t1, .ref t2, .ref t3, .ref t4, .ref t5])) (upd He5 tl (.lst [.ref t1, .ref t2, .ref t3, .ref t4, .ref t5])) := Stp.new z.st.fh htl
  have etl : upd F1 tl (.lst [.ref t1, .ref t2, .ref t3, .ref t4, .ref t5]) tl = some (.lst [.ref t1, .ref t2, .ref t3, .ref t4, .ref t5]) := upd_same
  replace z := z.stp stt
  have fft := stt.ff
  clear stt
  generalize upd F1 tl (.lst [.ref t1, .ref t2, .ref t3, .ref t4, .ref t5]) = F2 at z etl fft
  generalize upd He5 tl (.lst [.ref t1, .ref t2, .ref t3, .ref t4, .ref t5]) = Hf at z ⊢
  walk_at "r"
  refine ⟨a, _, dx, _, rfl, z.o, Z.o_LineModel.cl, Z.n_LineModel__tables, (by show 3 < 1000; decide), ?_⟩
  generalize eX : upd Hf a _ = Hg
  replace z := z.fld [("_rect", V.ref r), ("_last_pass", V.int (3 * pl)), ("_around", V.ref ar), ("_tables", V.ref tl)]
  rw [show upd Hf a (.ins (exA mg "LineModel") dx [("_rect", V.ref r), ("_last_pass", V.int (3 * pl)), ("_around", V.ref ar), ("_tables", V.ref tl)]) = Hg from eX] at z
  clear eX
  walk_at "r"
  refine ⟨sz (by simp), fun w0 hw0 => ?_⟩
  replace z := z.same (Stp.new (S := S0) (o := .lst [.int 0]) (Same.refl Hg) hw0).same
  have ew0 : upd Hg w0 (.lst [.int 0]) w0 = some (.lst [.int 0]) := upd_same
  generalize upd Hg w0 (.lst [.int 0]) = Hh0 at z ew0 ⊢
  walk_at "r"
  refine s_rep ew0 (by omega) (by omega) fun sg hq0 => ?_
  rw [Int.toNat_natCast]
  replace z := z.new (.lst (List.replicate (w * h) (.int 0))) hq0
  generalize upd Hh0 sg (.lst (List.replicate (w * h) (.int 0))) = Hi0 at z ⊢
  walk_at "r"
  refine ⟨a, _, dx, _, rfl, z.o, Z.o_LineModel.cl, Z.n_LineModel__signs, (by show 4 < 1000; decide), ?_⟩
  generalize eX : upd Hi0 a _ = Hj0
  replace z := z.fld [("_rect", V.ref r), ("_last_pass", V.int (3 * pl)), ("_around", V.ref ar), ("_tables", V.ref tl), ("_signs", V.ref sg)]
  rw [show upd Hi0 a (.ins (exA mg "LineModel") dx [("_rect", V.ref r), ("_last_pass", V.int (3 * pl)), ("_around", V.ref ar), ("_tables", V.ref tl), ("_signs", V.ref sg)]) = Hj0 from eX] at z
  clear eX
  walk_at "r"
  refine ⟨sz (by simp), fun w1 hw1 => ?_⟩
  replace z := z.same (Stp.new (S := S0) (o := .lst [.int 0]) (Same.refl Hj0) hw1).same
  have ew1 : upd Hj0 w1 (.lst [.int 0]) w1 = some (.lst [.int 0]) := upd_same
  generalize upd Hj0 w1 (.lst [.int 0]) = Hh1 at z ew1 ⊢
  walk_at "r"
  refine s_rep ew1 (by omega) (by omega) fun sz' hq1 => ?_
  rw [Int.toNat_natCast]
  replace z := z.new (.lst (List.replicate (w * h) (.int 0))) hq1
  generalize upd Hh1 sz' (.lst (List.replicate (w * h) (.int 0))) = Hi1 at z ⊢
  walk_at "r"
  refine ⟨a, _, dx, _, rfl, z.o, Z.o_LineModel.cl, Z.n_LineModel__sizes, (by show 5 < 1000; decide), ?_⟩
  generalize eX : upd Hi1 a _ = Hj1
  replace z := z.fld [("_rect", V.ref r), ("_last_pass", V.int (3 * pl)), ("_around", V.ref ar), ("_tables", V.ref tl), ("_signs", V.ref sg), ("_sizes", V.ref sz')]
  rw [show upd Hi1 a (.ins (exA mg "LineModel") dx [("_rect", V.ref r), ("_last_pass", V.int (3 * pl)), ("_around", V.ref ar), ("_tables", V.ref tl), ("_signs", V.ref sg), ("_sizes", V.ref sz')]) = Hj1 from eX] at z
  clear eX
  walk_at "r"
  refine ⟨sz (by simp), fun w2 hw2 => ?_⟩
  replace z := z.same (Stp.new (S := S0) (o := .lst [.int pl]) (Same.refl Hj1) hw2).same
  have ew2 : upd Hj1 w2 (.lst [.int pl]) w2 = some (.lst [.int pl]) := upd_same
  generalize upd Hj1 w2 (.lst [.int pl]) = Hh2 at z ew2 ⊢
  walk_at "r"
  refine s_rep ew2 (by omega) (by omega) fun bg hq2 => ?_
  rw [Int.toNat_natCast]
  replace z := z.new (.lst (List.replicate (w * h) (.int pl))) hq2
  generalize upd Hh2 bg (.lst (List.replicate (w * h) (.int pl))) = Hi2 at z ⊢
  walk_at "r"
  refine ⟨a, _, dx, _, rfl, z.o, Z.o_LineModel.cl, Z.n_LineModel__begun, (by show 6 < 1000; decide), ?_⟩
  generalize eX : upd Hi2 a _ = Hj2
  replace z := z.fld [("_rect", V.ref r), ("_last_pass", V.int (3 * pl)), ("_around", V.ref ar), ("_tables", V.ref tl), ("_signs", V.ref sg), ("_sizes", V.ref sz'), ("_begun", V.ref bg)]
  rw [show upd Hi2 a (.ins (exA mg "LineModel") dx [("_rect", V.ref r), ("_last_pass", V.int (3 * pl)), ("_around", V.ref ar), ("_tables", V.ref tl), ("_signs", V.ref sg), ("_sizes", V.ref sz'), ("_begun", V.ref bg)]) = Hj2 from eX] at z
  clear eX
  walk_at "r"
  refine ⟨sz (by simp), fun w3 hw3 => ?_⟩
  replace z := z.same (Stp.new (S := S0) (o := .lst [.int pl]) (Same.refl Hj2) hw3).same
  have ew3 : upd Hj2 w3 (.lst [.int pl]) w3 = some (.lst [.int pl]) := upd_same
  generalize upd Hj2 w3 (.lst [.int pl]) = Hh3 at z ew3 ⊢
  walk_at "r"
  refine s_rep ew3 (by omega) (by omega) fun td hq3 => ?_
  rw [Int.toNat_natCast]
  replace z := z.new (.lst (List.replicate (w * h) (.int pl))) hq3
  generalize upd Hh3 td (.lst (List.replicate (w * h) (.int pl))) = Hi3 at z ⊢
  walk_at "r"
  refine ⟨a, _, dx, _, rfl, z.o, Z.o_LineModel.cl, Z.n_LineModel__told, (by show 7 < 1000; decide), ?_⟩
  generalize eX : upd Hi3 a _ = Hj3
  replace z := z.fld [("_rect", V.ref r), ("_last_pass", V.int (3 * pl)), ("_around", V.ref ar), ("_tables", V.ref tl), ("_signs", V.ref sg), ("_sizes", V.ref sz'), ("_begun", V.ref bg), ("_told", V.ref td)]
  rw [show upd Hi3 a (.ins (exA mg "LineModel") dx [("_rect", V.ref r), ("_last_pass", V.int (3 * pl)), ("_around", V.ref ar), ("_tables", V.ref tl), ("_signs", V.ref sg), ("_sizes", V.ref sz'), ("_begun", V.ref bg), ("_told", V.ref td)]) = Hj3 from eX] at z
  clear eX
  walk_at "r"
  refine ifd (fun _ => ?_) (fun hn => absurd hwh0 (by omega))
  walk_at "r"
  refine ⟨a, _, dx, _, rfl, z.o, Z.o_LineModel.cl, Z.n_LineModel__plane, (by show 8 < 1000; decide), ?_⟩
  generalize eX : upd Hj3 a _ = Hk
  replace z := z.fld [("_rect", V.ref r), ("_last_pass", V.int (3 * pl)), ("_around", V.ref ar), ("_tables", V.ref tl), ("_signs", V.ref sg), ("_sizes", V.ref sz'), ("_begun", V.ref bg), ("_told", V.ref td), ("_plane", V.int (pl - 1))]
  rw [show upd Hj3 a (.ins (exA mg "LineModel") dx [("_rect", V.ref r), ("_last_pass", V.int (3 * pl)), ("_around", V.ref ar), ("_tables", V.ref tl), ("_signs", V.ref sg), ("_sizes", V.ref sz'), ("_begun", V.ref bg), ("_told", V.ref td), ("_plane", V.int (pl - 1))]) = Hk from eX] at z
  clear eX
  walk_at "r"
  refine ⟨a, dx, _, rfl, z.o, rfl, ?_⟩
  have hlen := besideAll_len w h
  have near : NearO mg Hk a (besideAll w h) (List.replicate (besideAll w h).length 0) := by
    refine ⟨dx, ar, sg, _, rows, z.o, rfl, rfl, rfl, rfl, ?_, z.st.fh _ _ (fft _ _ ear), (erows.mono fft).mono z.st.fh⟩
    rw [hlen, List.map_replicate]
    exact z.ct (sg, _) (by simp)
  refine ⟨rfl, F2, a, _, _, rfl, z.st.fh, near, besideAll_near hwh 0, fun F3 Hl tn tus stl etn etu => ?_⟩
  replace z := z.stp stl
  have ffl := stl.ff
  walk_at "r"
  refine ⟨a, _, dx, _, rfl, z.o, Z.o_LineModel.cl, Z.n_LineModel__turns, (by show 9 < 1000; decide), ?_⟩
  generalize eX : upd Hl a _ = Hm
  replace z := z.fld [("_rect", V.ref r), ("_last_pass", V.int (3 * pl)), ("_around", V.ref ar), ("_tables", V.ref tl), ("_signs", V.ref sg), ("_sizes", V.ref sz'), ("_begun", V.ref bg), ("_told", V.ref td), ("_plane", V.int (pl - 1)), ("_turns", V.ref tn)]
  rw [show upd Hl a (.ins (exA mg "LineModel") dx [("_rect", V.ref r), ("_last_pass", V.int (3 * pl)), ("_around", V.ref ar), ("_tables", V.ref tl), ("_signs", V.ref sg), ("_sizes", V.ref sz'), ("_begun", V.ref bg), ("_told", V.ref td), ("_plane", V.int (pl - 1)), ("_turns", V.ref tn)]) = Hm from eX] at z
  clear eX
  walk_at "r"
  refine ⟨a, _, dx, _, rfl, z.o, Z.o_LineModel.cl, Z.n_LineModel__spot, (by show 10 < 1000; decide), ?_⟩
  generalize eX : upd Hm a _ = Hn
  replace z := z.fld [("_rect", V.ref r), ("_last_pass", V.int (3 * pl)), ("_around", V.ref ar), ("_tables", V.ref tl), ("_signs", V.ref sg), ("_sizes", V.ref sz'), ("_begun", V.ref bg), ("_told", V.ref td), ("_plane", V.int (pl - 1)), ("_turns", V.ref tn), ("_spot", V.int 0)]
  rw [show upd Hm a (.ins (exA mg "LineModel") dx [("_rect", V.ref r), ("_last_pass", V.int (3 * pl)), ("_around", V.ref ar), ("_tables", V.ref tl), ("_signs", V.ref sg), ("_sizes", V.ref sz'), ("_begun", V.ref bg), ("_told", V.ref td), ("_plane", V.int (pl - 1)), ("_turns", V.ref tn), ("_spot", V.int 0)]) = Hn from eX] at z
  clear eX
  subst eL
  obtain ⟨f, hf⟩ : ∃ f : Nat → Nat, f = fun i => [0, 4, 3, 2, 1, 14, 12, 10, 8, 6, 13, 11, 9, 7, 5].getD i 0 := ⟨_, rfl⟩
  obtain ⟨B, hB⟩ : ∃ B : LA, B = { a := a, dx := dx, r := r, ar := ar, tl := tl, sg := sg, sz := sz', bg := bg, td := td, tn := tn, rows := rows, tus := tus, ts := [(t1, d1, l1), (t2, d2, l2), (t3, d3, l3), (t4, d4, l4), (t5, d5, l5)] } := ⟨_, rfl⟩
  have hc : B.cells = [a, sg, sz', bg, td, t1, t2, t3, t4, t5, l1, l2, l3, l4, l5] := by rw [hB]; rfl
  have hidx : ∀ i, i < B.cells.length → B.cells[i]? = [a, td, bg, sz', sg, l5, t5, l4, t4, l3, t3, l2, t2, l1, t1][f i]? := fun i hi => by
    rw [hc] at hi ⊢
    rw [hf]
    match i, hi with
    | 0, _ => rfl
    | 1, _ => rfl
    | 2, _ => rfl
    | 3, _ => rfl
    | 4, _ => rfl
    | 5, _ => rfl
    | 6, _ => rfl
    | 7, _ => rfl
    | 8, _ => rfl
    | 9, _ => rfl
    | 10, _ => rfl
    | 11, _ => rfl
    | 12, _ => rfl
    | 13, _ => rfl
    | 14, _ => rfl
  have hmem : ∀ b ∈ B.cells, b ∈ [a, td, bg, sz', sg, l5, t5, l4, t4, l3, t3, l2, t2, l1, t1] := fun b hb => by
    obtain ⟨i, hi⟩ := List.getElem?_of_mem hb
    have := hidx i (List.getElem?_eq_some_iff.mp hi).1
    rw [hi] at this
    exact List.mem_of_getElem? this.symm
  have hnd : B.cells.Nodup := nodup_idx (L := [a, td, bg, sz', sg, l5, t5, l4, t4, l3, t3, l2, t2, l1, t1]) z.nd f (fun i j hi hj e => by
    rw [hc] at hi hj
    have dec : ∀ i, i < 15 → ∀ j, j < 15 → [0, 4, 3, 2, 1, 14, 12, 10, 8, 6, 13, 11, 9, 7, 5].getD i 0 = [0, 4, 3, 2, 1, 14, 12, 10, 8, 6, 13, 11, 9, 7, 5].getD j 0 → i = j := by decide +kernel
    rw [hf] at e
    exact dec i hi j hj e) hidx
  have hpl : (iniM x0 y0 w h pl).plane = pl - 1 := if_neg (by rw [hlen]; omega)
  have rep : ∀ x : Int, (List.replicate (besideAll w h).length x).map V.int = List.replicate (w * h) (V.int x) := fun x => by rw [hlen, List.map_replicate]
  have lm : LMx mg F3 Hn B (iniM x0 y0 w h pl) := by
    refine ⟨z.st.fh, ?_, ?_, ?_, ?_, ?_, ?_, ?_, ?_, ?_, ?_, ?_, ?_, hnd, fun b hb => z.fr b (hmem b hb)⟩
    · rw [hB]
      unfold lmF
      rw [hpl]
      exact z.o
    · rw [hB]; exact ffl _ _ (fft _ _ (ffc _ _ hr))
    · rw [hB]; exact ffl _ _ (fft _ _ ear)
    · rw [hB]; exact (erows.mono fft).mono ffl
    · rw [hB]; exact ffl _ _ etl
    · rw [hB]
      refine ⟨rfl, fun i cs e => ?_⟩
      have e' : ([[1, 1, 1], [1, 1, 1], [1, 1, 1], [1, 1], [1, 1]] : List (List Int))[i]? = some cs := e
      match i, e' with
      | 0, e' => cases e'; exact ⟨_, rfl, z.ct (t1, _) (by simp), z.ct (l1, _) (by simp)⟩
      | 1, e' => cases e'; exact ⟨_, rfl, z.ct (t2, _) (by simp), z.ct (l2, _) (by simp)⟩
      | 2, e' => cases e'; exact ⟨_, rfl, z.ct (t3, _) (by simp), z.ct (l3, _) (by simp)⟩
      | 3, e' => cases e'; exact ⟨_, rfl, z.ct (t4, _) (by simp), z.ct (l4, _) (by simp)⟩
      | 4, e' => cases e'; exact ⟨_, rfl, z.ct (t5, _) (by simp), z.ct (l5, _) (by simp)⟩
    · rw [hB]; exact (z.ct (sg, .lst (List.replicate (w * h) (.int 0))) (by simp)).trans (by show some (HO.lst (List.replicate (w * h) (V.int 0))) = some (HO.lst ((List.replicate (besideAll w h).length 0).map V.int)); rw [rep])
    · rw [hB]; exact (z.ct (sz', .lst (List.replicate (w * h) (.int 0))) (by simp)).trans (by show some (HO.lst (List.replicate (w * h) (V.int 0))) = some (HO.lst ((List.replicate (besideAll w h).length 0).map V.int)); rw [rep])
    · rw [hB]; exact (z.ct (bg, .lst (List.replicate (w * h) (.int pl))) (by simp)).trans (by show some (HO.lst (List.replicate (w * h) (V.int pl))) = some (HO.lst ((List.replicate (besideAll w h).length pl).map V.int)); rw [rep])
    · rw [hB]; exact (z.ct (td, .lst (List.replicate (w * h) (.int pl))) (by simp)).trans (by show some (HO.lst (List.replicate (w * h) (V.int pl))) = some (HO.lst ((List.replicate (besideAll w h).length pl).map V.int)); rw [rep])
    · rw [hB]; exact etn
    · rw [hB]; exact etu
  refine q F3 Hn B (by rw [hB]) z.st lm fun c hc' => ?_
  rcases List.mem_cons.mp (hmem c hc') with e | e
  · exact .inl e
  · exact .inr (z.nwm c e)
abbrev s_LineModel__table_number : Stmt := inClass (topS 39) 3
theorem sc_LineModel__table_number : FnScope ["self", "kind", "place", "other"] ["self", "kind", "place"] (defScope s_LineModel__table_number) := ⟨rfl, rfl, rfl, by decide +kernel, rfl, by decide +kernel, by decide +kernel⟩
def Ok_LineModel__table_number (P : Program) (w : World) (K : PySem.W.Frag) (mg : Str → Option Value) (base : Heap) : Prop := ∃ fA fd, FnC P w K mg base (L2.CX P w) 1 "_table_number" "LineModel._table_number" s_LineModel__table_number fA fd ["self", "kind", "place"] (sp_LineModel__table_number K mg) ∧ Meth K (exA mg "LineModel") "_table_number" fA
theorem okx_LineModel__table_number (Z : Zs K mg) {fA : Addr} {fd : FuncData} (F : Fun K "_table_number" "LineModel._table_number" s_LineModel__table_number fA fd)  : FnC P w K mg base (L2.CX P w) 1 "_table_number" "LineModel._table_number" s_LineModel__table_number fA fd ["self", "kind", "place"] (sp_LineModel__table_number K mg) := by
  refine ⟨F.okX sc_LineModel__table_number (fun vs H Q E h => h.1) (fun cdv A outer s H vs Q E hr h => ?_), F.binds fun _ _ _ _ _ _ us hl => match us, hl with | [_, _, _], _ => rfl, F⟩
  have hu64 := hr.units
  obtain ⟨hlen, h⟩ := h
  refine ⟨_, (pss_cons (ps_if (pt_cmpR op_eq (pv 1) (pe_glob (v := .int (1)) rfl Z.c_SHARPER ⟨_, rfl⟩) (nomark _))
      (pss_one (ps_ret (pe_ifExp (pt_cmpR op_eq (pe_ix (i_list K rfl) (pe_fld (pv 0) rfl) (pv 2) (fun _ _ => rfl)) (pe_op op_add (pe_fld (pv 0) rfl) pe_int) (nomark _)) (pe_glob (v := .int (3)) rfl Z.c_YOUNG ⟨_, rfl⟩) (pe_glob (v := .int (4)) rfl Z.c_OLD ⟨_, rfl⟩))))
      pss_nil)
    (pss_one (ps_ret (pe_callB (c_min2 rfl) (by rfl) Z.z_min (by decide +kernel) (pa_cons (pe_glob (v := .int (2)) rfl Z.c_MOST_NEAR ⟨_, rfl⟩) (pa_cons (pe_callB (c_sum K rfl rfl) (by rfl) Z.z_sum (by decide +kernel) (pa_cons (pe_lc (own := [("other", 3)]) (g := gName 3) (tt := tYes) (by rfl) sc_LineModel__table_number.nd (pi_list (pe_ix (i_list K rfl) (pe_fld (pv 0) rfl) (pv 2) (fun _ _ => rfl))) (blkOk_by (own := [("other", 3)]) (N := ["self", "kind", "place", "other"]) (sc := defScope s_LineModel__table_number) (by decide +kernel)) (fun _ _ _ _ _ => (pg_name (i := 3) sc_LineModel__table_number.nd rfl (Or.inl rfl))) (fun _ _ _ _ _ => pts_nil) (fun _ _ _ _ _ => (pe_callTy c_int1 (by rfl) Z.z_int (by decide +kernel) (pa_cons (pe_cmpR op_ne (pe_ix (i_list K rfl) (pe_fldK K rfl (pv 0) rfl) (pv 3) (fun _ _ => rfl)) pe_int (nomark _)) pa_nil)))) pa_nil)) pa_nil)))))), ?_⟩
  obtain ⟨F, A, m, k, p, rfl, z, ok, hk, hp, q⟩ := h
  have hnb : nearN m.around m.signs p = (m.around.getD p []).countP fun o => !decide (m.signs.getD o 0 = 0) := rfl
  obtain ⟨rq, er, hr0⟩ := z.rows.2 p _ (row_get hp [])
  have hr := z.fh _ _ hr0
  have hrow := ok.ar _ (List.mem_of_getElem? (row_get hp []))
  walk_at "r"
  refine ifd (fun h => ?_) (fun h => ?_)
  · have hk1 : k = 1 := by omega
    walk_at "r"
    refine ⟨A.a, _, A.dx, _, _, rfl, z.o, Z.o_LineModel.cl, Z.n_LineModel__begun, rfl, ?_⟩
    walk_at "r"
    refine s_ixL (.of z.bg) (sg_at (by rw [ok.bg]; exact hp)) ?_
    walk_at "r"
    refine ⟨A.a, _, A.dx, _, _, rfl, z.o, Z.o_LineModel.cl, Z.n_LineModel__plane, rfl, ?_⟩
    walk_at "r"
    have := q H (Same.refl H)
    unfold tno at this
    rw [if_pos hk1] at this
    refine ifd (fun h => ?_) (fun h => ?_)
    · rw [if_pos h] at this
      walk_at "r"
      exact this
    · rw [if_neg h] at this
      walk_at "r"
      exact this
  · have hk1 : ¬ k = 1 := by omega
    have q' : ∀ H', Same H H' → Q (.int ((min 2 (nearN m.around m.signs p) : Nat) : Int)) H' := fun H' s => by
      have := q H' s
      unfold tno at this
      rw [if_neg hk1] at this
      exact this
    rw [hnb] at q'
    generalize m.around.getD p [] = row at hr hrow q'
    walk_at "r"
    refine ⟨A.a, _, A.dx, _, _, rfl, z.o, Z.o_LineModel.cl, Z.n_LineModel__around, rfl, ?_⟩
    walk_at "r"
    refine s_ixL (.of (z.fh _ _ z.ar)) (at_nat' (by rw [List.getElem?_map, er]; rfl)) ?_
    refine ⟨rq, rfl, ⟨_, SqL.of hr⟩, ?_⟩
    refine lcW (walk_list (xs := row.map fun (n : Nat) => V.int (n : Int))) S0 (Same.refl H) (fun _ z => z.elim) (fun _ _ st => st.same.seq (SqL.of hr)) (fun i acc F1 H1 => acc = (row.take i).map fun o => V.int (if (!decide (m.signs.getD o 0 = 0)) = true then 1 else 0)) (fun _ _ _ _ _ _ _ _ _ r => r) rfl ?_ ?_
    · rintro i x acc d F1 H1 H2 hi ⟨rfl, hx⟩ hd nS st f0 e hl rr
      rw [List.length_map] at hi
      rw [List.getElem?_map, List.getElem?_eq_getElem hi] at hx
      cases hx
      have ho : row[i] < m.signs.length := by rw [ok.sg]; exact hrow.2 _ (List.getElem_mem hi)
      have hg := List.getElem?_eq_getElem hi
      generalize row[i] = o at ho hg
      walk_at "r"
      refine ⟨A.a, _, A.dx, _, _, rfl, st.same _ _ z.o, Z.o_LineModel.cl, Z.n_LineModel__signs, rfl, ?_⟩
      walk_at "r"
      refine s_ixL (.of (st.same _ _ z.sg)) (sg_at ho) ?_
      walk_at "r"
      refine lc_end hd nS st f0 e hl (by omega) (.rfl' st.fh) ?_
      rw [rr, List.take_succ, hg]
      simp
    · intro d acc F0 F1 H1 st hd f0 ef st1 hl rr
      have hd1 : H1 d = some (.lst acc) := by rw [ef] at st1; exact st1.fh _ _ upd_same
      rw [List.length_map, List.take_length] at rr
      walk_at "r"
      refine ⟨d, row.map fun o => if (!decide (m.signs.getD o 0 = 0)) = true then (1 : Int) else 0, rfl, .of ?_, ?_⟩
      · rw [hd1, rr, List.map_map]; rfl
      · rw [sum_count]
        walk_at "r"
        have := q' H1 st.same
        generalize List.countP _ row = c at this
        have e : (if (c : Int) < 2 then (c : Int) else 2) = ((min 2 c : Nat) : Int) := by split <;> omega
        rw [e]; exact this
abbrev s_LineModel_wanted : Stmt := inClass (topS 39) 4
theorem sc_LineModel_wanted : FnScope ["self", "kind", "place", "x0", "x1", "y0", "y1", "cell"] ["self"] (defScope s_LineModel_wanted) := ⟨rfl, rfl, rfl, by decide +kernel, rfl, by decide +kernel, by decide +kernel⟩
def Ok_LineModel_wanted (P : Program) (w : World) (K : PySem.W.Frag) (mg : Str → Option Value) (base : Heap) : Prop := ∃ fA fd, FnC P w K mg base (L2.CX P w) 2 "wanted" "LineModel.wanted" s_LineModel_wanted fA fd ["self"] (sp_LineModel_wanted K mg) ∧ Meth K (exA mg "LineModel") "wanted" fA
theorem okx_LineModel_wanted (Z : Zs K mg) {fA : Addr} {fd : FuncData} (F : Fun K "wanted" "LineModel.wanted" s_LineModel_wanted fA fd) (C_LineModel__table_number : Ok_LineModel__table_number P w K mg base) : FnC P w K mg base (L2.CX P w) 2 "wanted" "LineModel.wanted" s_LineModel_wanted fA fd ["self"] (sp_LineModel_wanted K mg) := by
  obtain ⟨_, _, C_LineModel__table_number, M_LineModel__table_number⟩ := C_LineModel__table_number
  refine ⟨F.okX sc_LineModel_wanted (fun vs H Q E h => h.1) (fun cdv A outer s H vs Q E hr h => ?_), F.binds fun _ _ _ _ _ _ us hl => match us, hl with | [_], _ => rfl, F⟩
  have hu64 := hr.units
  obtain ⟨hlen, h⟩ := h
  refine ⟨_, (pss_cons (ps_if (pt_cmpR op_lt (pe_fld (pv 0) rfl) pe_int (nomark _))
      (pss_one (ps_ret pe_non))
      pss_nil)
    (pss_cons (ps_asg (pe_ix (i_list K rfl) (pe_fld (pv 0) rfl) (pe_fld (pv 0) rfl) (fun _ _ => rfl)) (pg_tup rfl (pgs_cons (pg_name (i := 1) sc_LineModel_wanted.nd rfl (Or.inl rfl)) (pgs_cons (pg_name (i := 2) sc_LineModel_wanted.nd rfl (Or.inl rfl)) pgs_nil))))
    (pss_cons (ps_asg (pe_fld (pv 0) rfl) (pg_tup rfl (pgs_cons (pg_name (i := 3) sc_LineModel_wanted.nd rfl (Or.inl rfl)) (pgs_cons (pg_name (i := 4) sc_LineModel_wanted.nd rfl (Or.inl rfl)) (pgs_cons (pg_name (i := 5) sc_LineModel_wanted.nd rfl (Or.inl rfl)) (pgs_cons (pg_name (i := 6) sc_LineModel_wanted.nd rfl (Or.inl rfl)) pgs_nil))))))
    (pss_cons (ps_set (i := 7) sc_LineModel_wanted.nd rfl (Or.inl rfl) (pe_tup (pa_cons (pe_op op_add (pv 3) (pe_op op_mod (pv 2) (pe_op op_sub (pv 4) (pv 3)))) (pa_cons (pe_op op_add (pv 5) (pe_op op_fdiv (pv 2) (pe_op op_sub (pv 4) (pv 3)))) pa_nil))))
    (pss_one (ps_ret (pe_tup (pa_cons (pe_meth (pv 0) Z.o_LineModel.cl M_LineModel__table_number C_LineModel__table_number.G (hr.mono (by decide)) C_LineModel__table_number.b .nil passL (pa_cons (pv 1) (pa_cons (pv 2) pa_nil))) (pa_cons (pe_ifExp (pt_cmpR op_eq (pv 1) (pe_glob (v := .int (1)) rfl Z.c_SHARPER ⟨_, rfl⟩) (nomark _)) pe_int pe_int) (pa_cons (pv 7) pa_nil)))))))))), ?_⟩
  obtain ⟨F, A, m, rfl, z, ok, hh⟩ := h
  walk_at "r"
  refine ⟨A.a, _, A.dx, _, _, rfl, z.o, Z.o_LineModel.cl, Z.n_LineModel__plane, rfl, ?_⟩
  walk_at "r"
  refine ifd (fun h => ?_) (fun h => ?_)
  · rcases hh with ⟨_, q⟩ | ⟨hp, _⟩
    · walk_at "r"
      exact q
    · omega
  rcases hh with ⟨hp, _⟩ | ⟨hp, q⟩
  · omega
  obtain ⟨hk, hpl, ht⟩ := ok.turn hp
  obtain ⟨hwd, hwd2⟩ := ok.wd hp
  obtain ⟨tq, etq, htq⟩ := z.tu.2 _ _ ht
  walk_at "r"
  refine ⟨A.a, _, A.dx, _, _, rfl, z.o, Z.o_LineModel.cl, Z.n_LineModel__turns, rfl, ?_⟩
  walk_at "r"
  refine ⟨A.a, _, A.dx, _, _, rfl, z.o, Z.o_LineModel.cl, Z.n_LineModel__spot, rfl, ?_⟩
  refine s_ixL (.of (z.fh _ _ z.tn)) (at_nat' (by rw [List.getElem?_map, etq]; rfl)) ?_
  refine s_gtup (.of (z.fh _ _ htq)) rfl ?_
  walk_at "r"
  refine ⟨A.a, _, A.dx, _, _, rfl, z.o, Z.o_LineModel.cl, Z.n_LineModel__rect, rfl, ?_⟩
  refine s_gtup (.of (z.fh _ _ z.r)) rfl ?_
  walk_at "r"
  refine ⟨sz (by simp), fun c hc => ?_⟩
  have s1 := (Stp.new (S := S0) (o := .tup [.int (m.x0 + ((turnM m).2 : Int) % (m.x1 - m.x0)), .int (m.y0 + ((turnM m).2 : Int) / (m.x1 - m.x0))]) (Same.refl H) hc).same
  have h1 : upd H c (.tup [.int (m.x0 + ((turnM m).2 : Int) % (m.x1 - m.x0)), .int (m.y0 + ((turnM m).2 : Int) / (m.x1 - m.x0))]) c = some (.tup [.int (cellM m).1, .int (cellM m).2]) := upd_same
  generalize upd H c (.tup [.int (m.x0 + ((turnM m).2 : Int) % (m.x1 - m.x0)), .int (m.y0 + ((turnM m).2 : Int) / (m.x1 - m.x0))]) = H1 at s1 h1 ⊢
  have z1 := z.of s1
  walk_at "r"
  refine ⟨A.a, A.dx, _, rfl, z1.o, rfl, ?_⟩
  walk_at "r"
  refine ⟨rfl, F, A, m, (turnM m).1, (turnM m).2, rfl, z1, ok, hk, hpl, fun H2 s2 => ?_⟩
  walk_at "r"
  have fin : ∀ i : Int, i = manyM m → ([V.int (tno m (turnM m).1 (turnM m).2 : Nat), V.int i, V.ref c]).length ≤ sizeLine ∧ ∀ p, H2 p = none → Q (V.ref p) (upd H2 p (.tup [.int (tno m (turnM m).1 (turnM m).2 : Nat), .int i, .ref c])) := fun i ei => by
    subst ei
    refine ⟨sz (by simp), fun p hp => ?_⟩
    have s3 := (Stp.new (S := S0) (o := .tup [.int (tno m (turnM m).1 (turnM m).2 : Nat), .int (manyM m), .ref c]) (Same.refl H2) hp).same
    exact q p c _ (s1.trans (s2.trans s3)) (same_none (s1.trans s2) hp) upd_same (s3 _ _ (s2 _ _ h1))
  refine ifd (fun h => ?_) (fun h => ?_)
  · walk_at "r"
    exact fin 2 (by unfold manyM; rw [if_pos (by omega)])
  · walk_at "r"
    exact fin 3 (by unfold manyM; rw [if_neg (by omega)])
abbrev s_LineModel_wanted_counts : Stmt := inClass (topS 39) 5
theorem sc_LineModel_wanted_counts : FnScope ["self", "told"] ["self"] (defScope s_LineModel_wanted_counts) := ⟨rfl, rfl, rfl, by decide +kernel, rfl, by decide +kernel, by decide +kernel⟩
def Ok_LineModel_wanted_counts (P : Program) (w : World) (K : PySem.W.Frag) (mg : Str → Option Value) (base : Heap) : Prop := ∃ fA fd, FnC P w K mg base (L2.CX P w) 3 "wanted_counts" "LineModel.wanted_counts" s_LineModel_wanted_counts fA fd ["self"] (sp_LineModel_wanted_counts K mg) ∧ Meth K (exA mg "LineModel") "wanted_counts" fA
theorem okx_LineModel_wanted_counts (Z : Zs K mg) {fA : Addr} {fd : FuncData} (F : Fun K "wanted_counts" "LineModel.wanted_counts" s_LineModel_wanted_counts fA fd) (C_Table_counts : Ok_Table_counts P w K mg base) (C_LineModel_wanted : Ok_LineModel_wanted P w K mg base) : FnC P w K mg base (L2.CX P w) 3 "wanted_counts" "LineModel.wanted_counts" s_LineModel_wanted_counts fA fd ["self"] (sp_LineModel_wanted_counts K mg) := by
  obtain ⟨_, _, _, C_Table_counts, M_Table_counts⟩ := C_Table_counts
  obtain ⟨_, _, C_LineModel_wanted, M_LineModel_wanted⟩ := C_LineModel_wanted
  refine ⟨F.okX sc_LineModel_wanted_counts (fun vs H Q E h => h.1) (fun cdv A outer s H vs Q E hr h => ?_), F.binds fun _ _ _ _ _ _ us hl => match us, hl with | [_], _ => rfl, F⟩
  have hu64 := hr.units
  obtain ⟨hlen, h⟩ := h
  refine ⟨_, (pss_cons (ps_set (i := 1) sc_LineModel_wanted_counts.nd rfl (Or.inl rfl) (pe_meth0 (pv 0) Z.o_LineModel.cl M_LineModel_wanted C_LineModel_wanted.G (hr.mono (by decide)) C_LineModel_wanted.b .nil passL))
    (pss_one (ps_ret (pe_ifExp (pt_cmpR op_isN (pv 1) pe_non (nomark _)) (pe_lst pa_nil) (pe_prop (pe_ix (i_list K rfl) (pe_fld (pv 0) rfl) (pe_ix (i_tup K rfl) (pv 1) pe_int (fun _ _ => rfl)) (fun _ _ => rfl)) Z.o_Table.cl M_Table_counts C_Table_counts.G (hr.mono (by decide)) C_Table_counts.b .nil passL rfl))))), ?_⟩
  obtain ⟨F, A, m, rfl, z, ok, hh⟩ := h
  walk_at "r"
  refine ⟨A.a, A.dx, _, rfl, z.o, rfl, ?_⟩
  rcases hh with ⟨hp, q⟩ | ⟨hp, q⟩
  · refine ⟨rfl, F, A, m, rfl, z, ok, .inl ⟨hp, ?_⟩⟩
    walk_at "r"
    refine ⟨rfl, ?_⟩
    walk_at "r"
    refine ifd (fun _ => ?_) (fun h => absurd rfl h)
    walk_at "r"
    exact ⟨sz (by simp), fun p hp => q p _ (Stp.new (S := S0) (Same.refl _) hp).same hp upd_same⟩
  obtain ⟨h5, et, _, _⟩ := ok.tab hp
  obtain ⟨t, ett, ot⟩ := z.ts.2 _ _ et
  refine ⟨rfl, F, A, m, rfl, z, ok, .inr ⟨hp, fun p c H1 s1 hp1 h1 hc => ?_⟩⟩
  have z1 := z.of s1
  walk_at "r"
  refine ⟨rfl, ?_⟩
  walk_at "r"
  refine ifd (fun h => by cases h) (fun _ => ?_)
  walk_at "r"
  refine ⟨A.a, _, A.dx, _, _, rfl, z1.o, Z.o_LineModel.cl, Z.n_LineModel__tables, rfl, ?_⟩
  walk_at "r"
  refine s_ixL (.of (z1.fh _ _ z1.tl)) (at_nat' (by rw [List.getElem?_map, ett]; rfl)) ?_
  obtain ⟨t, ett', ot⟩ := z1.ts.2 _ _ et
  rw [ett] at ett'
  cases ett'
  refine ⟨_, _, _, rfl, ot.1, ?_⟩
  refine ⟨rfl, _, _, _, _, rfl, ot, fun p2 hp2 => ?_⟩
  exact q p2 _ (s1.trans (Stp.new (S := S0) (Same.refl _) hp2).same) (same_none s1 hp2) upd_same
abbrev s_LineModel__go_on : Stmt := inClass (topS 39) 7
theorem sc_LineModel__go_on : FnScope ["self"] ["self"] (defScope s_LineModel__go_on) := ⟨rfl, rfl, rfl, by decide +kernel, rfl, by decide +kernel, by decide +kernel⟩
def Ok_LineModel__go_on (P : Program) (w : World) (K : PySem.W.Frag) (mg : Str → Option Value) (base : Heap) : Prop := ∃ fA fd, FnC P w K mg base (L2.CX P w) 3 "_go_on" "LineModel._go_on" s_LineModel__go_on fA fd ["self"] (sp_LineModel__go_on K mg) ∧ Meth K (exA mg "LineModel") "_go_on" fA
theorem okx_LineModel__go_on (Z : Zs K mg) {fA : Addr} {fd : FuncData} (F : Fun K "_go_on" "LineModel._go_on" s_LineModel__go_on fA fd) (C_LineModel__turns_of_plane : Ok_LineModel__turns_of_plane P w K mg base) : FnC P w K mg base (L2.CX P w) 3 "_go_on" "LineModel._go_on" s_LineModel__go_on fA fd ["self"] (sp_LineModel__go_on K mg) := by
  obtain ⟨_, _, C_LineModel__turns_of_plane, M_LineModel__turns_of_plane⟩ := C_LineModel__turns_of_plane
  refine ⟨F.okX sc_LineModel__go_on (fun vs H Q E h => h.1) (fun cdv A outer s H vs Q E hr h => ?_), F.binds fun _ _ _ _ _ _ us hl => match us, hl with | [_], _ => rfl, F⟩
  have hu64 := hr.units
  obtain ⟨hlen, h⟩ := h
  refine ⟨_, (pss_cons (ps_fld (pv 0) (pe_op op_add (pe_fld (pv 0) rfl) pe_int) rfl)
    (pss_one (ps_if (pt_cmpR op_eq (pe_fld (pv 0) rfl) (pe_callB (c_len K rfl) (by rfl) Z.z_len (by decide +kernel) (pa_cons (pe_fld (pv 0) rfl) pa_nil)) (nomark _))
      (pss_cons (ps_fld (pv 0) (pe_op op_sub (pe_fld (pv 0) rfl) pe_int) rfl)
    (pss_cons (ps_fld (pv 0) (pe_meth0 (pv 0) Z.o_LineModel.cl M_LineModel__turns_of_plane C_LineModel__turns_of_plane.G (hr.mono (by decide)) C_LineModel__turns_of_plane.b .nil passL) rfl)
    (pss_one (ps_fld (pv 0) pe_int rfl))))
      pss_nil))), ?_⟩
  obtain ⟨F, A, m, rfl, z, ok, hp, q⟩ := h
  have hs := ok.sp hp
  have mem : ∀ o, Stp (fun c => c = A.a) F H F (upd H A.a o) := fun o => Stp.wr z.fh rfl (z.fr _ (LMx.ma A))
  walk_at "r"
  refine ⟨A.a, _, A.dx, _, _, rfl, z.o, Z.o_LineModel.cl, Z.n_LineModel__spot, rfl, ?_⟩
  walk_at "r"
  refine ⟨A.a, _, A.dx, _, rfl, z.o, Z.o_LineModel.cl, Z.n_LineModel__spot, (by show 11 < 1000; decide), ?_⟩
  have es : (m.spot : Int) + 1 = ((m.spot + 1 : Nat) : Int) := by omega
  rw [es]
  have z1 : LMx mg F (upd H A.a (.ins (exA mg "LineModel") A.dx (lmF A { m with spot := m.spot + 1 }))) A { m with spot := m.spot + 1 } := z.setObj m.plane ((m.spot + 1 : Nat) : Int) { m with spot := m.spot + 1 } rfl rfl
  have st1 := mem (.ins (exA mg "LineModel") A.dx (lmF A { m with spot := m.spot + 1 }))
  rw [putF_spot]
  generalize upd H A.a (.ins (exA mg "LineModel") A.dx (lmF A { m with spot := m.spot + 1 })) = H1 at z1 st1 ⊢
  walk_at "r"
  refine ⟨A.a, _, A.dx, _, _, rfl, z1.o, Z.o_LineModel.cl, Z.n_LineModel__spot, rfl, ?_⟩
  walk_at "r"
  refine ⟨A.a, _, A.dx, _, _, rfl, z1.o, Z.o_LineModel.cl, Z.n_LineModel__turns, rfl, ?_⟩
  walk_at "r"
  refine s_len (.of (z1.fh _ _ z1.tn)) ?_
  walk_at "r"
  rw [List.length_map, z1.tu.1]
  dsimp only
  refine ifd (fun h => ?_) (fun h => ?_)
  rotate_left
  · have eg : goOn m = { m with spot := m.spot + 1 } := by unfold goOn; rw [if_neg (by omega)]
    walk_at "r"
    exact q F H1 A.tn A.tus st1 (by rw [eg]; exact z1)
  have eg : goOn m = { m with plane := m.plane - 1, turns := turnsOf m.around m.signs, spot := 0 } := by unfold goOn; rw [if_pos (by omega)]
  walk_at "r"
  refine ⟨A.a, _, A.dx, _, _, rfl, z1.o, Z.o_LineModel.cl, Z.n_LineModel__plane, rfl, ?_⟩
  walk_at "r"
  refine ⟨A.a, _, A.dx, _, rfl, z1.o, Z.o_LineModel.cl, Z.n_LineModel__plane, (by show 11 < 1000; decide), ?_⟩
  rw [putF_plane]
  dsimp only
  have z2 : LMx mg F (upd H1 A.a (.ins (exA mg "LineModel") A.dx (lmF A { m with plane := m.plane - 1, spot := m.spot + 1 }))) A { m with plane := m.plane - 1, spot := m.spot + 1 } := z1.setObj (m.plane - 1) ((m.spot + 1 : Nat) : Int) { m with plane := m.plane - 1, spot := m.spot + 1 } rfl rfl
  have st2 : Stp (fun c => c = A.a) F H F (upd H1 A.a (.ins (exA mg "LineModel") A.dx (lmF A { m with plane := m.plane - 1, spot := m.spot + 1 }))) := st1.trans (Stp.wr z1.fh rfl (z1.fr _ (LMx.ma A)))
  generalize upd H1 A.a (.ins (exA mg "LineModel") A.dx (lmF A { m with plane := m.plane - 1, spot := m.spot + 1 })) = H2 at z2 st2 ⊢
  walk_at "r"
  refine ⟨A.a, A.dx, _, rfl, z2.o, rfl, ?_⟩
  refine ⟨rfl, F, A.a, m.around, m.signs, rfl, z2.fh, z2.near, ok.near, fun F3 H3 tn tus st3 etn etu => ?_⟩
  have z3 := z2.step st3 fun _ _ h => h
  have st23 := st2.trans st3.up
  walk_at "r"
  refine ⟨A.a, _, A.dx, _, rfl, z3.o, Z.o_LineModel.cl, Z.n_LineModel__turns, (by show 11 < 1000; decide), ?_⟩
  rw [putF_turns A _ tn (turnsOf m.around m.signs) tus]
  have z4 := z3.setTurns etn etu
  have st4 := st23.trans (Stp.wr (S := fun c => c = A.a) (o := .ins (exA mg "LineModel") A.dx (lmF { A with tn := tn, tus := tus } { m with plane := m.plane - 1, spot := m.spot + 1, turns := turnsOf m.around m.signs })) z3.fh rfl (z3.fr _ (LMx.ma A)))
  dsimp only at z4 st4 ⊢
  generalize upd H3 A.a (.ins (exA mg "LineModel") A.dx (lmF { A with tn := tn, tus := tus } _)) = H4 at z4 st4 ⊢
  walk_at "r"
  refine ⟨A.a, _, A.dx, _, rfl, z4.o, Z.o_LineModel.cl, Z.n_LineModel__spot, (by show 11 < 1000; decide), ?_⟩
  rw [putF_spot0]
  dsimp only
  refine q F3 _ tn tus (st4.trans (Stp.wr z4.fh rfl (z4.fr _ (LMx.ma _)))) ?_
  rw [eg]
  exact z4.setObj (m.plane - 1) 0 _ rfl rfl
abbrev s_LineModel_take : Stmt := inClass (topS 39) 6
theorem sc_LineModel_take : FnScope ["self", "letter", "told", "kind", "place"] ["self", "letter"] (defScope s_LineModel_take) := ⟨rfl, rfl, rfl, by decide +kernel, rfl, by decide +kernel, by decide +kernel⟩
def Ok_LineModel_take (P : Program) (w : World) (K : PySem.W.Frag) (mg : Str → Option Value) (base : Heap) : Prop := ∃ fA fd, FnC P w K mg base (L2.CX P w) 4 "take" "LineModel.take" s_LineModel_take fA fd ["self", "letter"] (sp_LineModel_take K mg) ∧ Meth K (exA mg "LineModel") "take" fA
theorem okx_LineModel_take (Z : Zs K mg) {fA : Addr} {fd : FuncData} (F : Fun K "take" "LineModel.take" s_LineModel_take fA fd) (C_LineModel__go_on : Ok_LineModel__go_on P w K mg base) (C_Table_learn : Ok_Table_learn P w K mg base) (C_LineModel_wanted : Ok_LineModel_wanted P w K mg base) : FnC P w K mg base (L2.CX P w) 4 "take" "LineModel.take" s_LineModel_take fA fd ["self", "letter"] (sp_LineModel_take K mg) := by
  obtain ⟨_, _, C_LineModel__go_on, M_LineModel__go_on⟩ := C_LineModel__go_on
  obtain ⟨_, _, C_Table_learn, M_Table_learn⟩ := C_Table_learn
  obtain ⟨_, _, C_LineModel_wanted, M_LineModel_wanted⟩ := C_LineModel_wanted
  refine ⟨F.okX sc_LineModel_take (fun vs H Q E h => h.1) (fun cdv A outer s H vs Q E hr h => ?_), F.binds fun _ _ _ _ _ _ us hl => match us, hl with | [_, _], _ => rfl, F⟩
  have hu64 := hr.units
  obtain ⟨hlen, h⟩ := h
  refine ⟨_, (pss_cons (ps_set (i := 2) sc_LineModel_take.nd rfl (Or.inl rfl) (pe_meth0 (pv 0) Z.o_LineModel.cl M_LineModel_wanted C_LineModel_wanted.G (hr.mono (by decide)) C_LineModel_wanted.b .nil passL))
    (pss_cons (ps_if (PW.pt (pw_or (pt_cmpR op_isN (pv 2) pe_non (nomark _)) (pw_or1 (pt_not (pt_chain op_le op_lt pe_int (pv 1) (pe_ix (i_tup K rfl) (pv 2) pe_int (fun _ _ => rfl)))))))
      (pss_one (ps_raise rfl (takes_of rfl rfl rfl rfl) (pmk_own0 PySem.F.excBase_ValueError Z.x_Outside.x Z.x_Outside.g Z.x_Outside.k (raises_own Z.x_Outside.b Z.x_Outside.t) rfl)))
      pss_nil)
    (pss_cons (ps_expr (pe_meth (pe_ix (i_list K rfl) (pe_fld (pv 0) rfl) (pe_ix (i_tup K rfl) (pv 2) pe_int (fun _ _ => rfl)) (fun _ _ => rfl)) Z.o_Table.cl M_Table_learn C_Table_learn.G (hr.mono (by decide)) C_Table_learn.b .nil passL (pa_cons (pv 1) pa_nil)))
    (pss_cons (ps_asg (pe_ix (i_list K rfl) (pe_fld (pv 0) rfl) (pe_fld (pv 0) rfl) (fun _ _ => rfl)) (pg_tup rfl (pgs_cons (pg_name (i := 3) sc_LineModel_take.nd rfl (Or.inl rfl)) (pgs_cons (pg_name (i := 4) sc_LineModel_take.nd rfl (Or.inl rfl)) pgs_nil))))
    (pss_cons (ps_if (pt_cmpR op_eq (pv 3) (pe_glob (v := .int (1)) rfl Z.c_SHARPER ⟨_, rfl⟩) (nomark _))
      (pss_one (ps_asg (pe_op op_add (pe_op op_mul pe_int (pe_ix (i_list K rfl) (pe_fld (pv 0) rfl) (pv 4) (fun _ _ => rfl))) (pv 1)) (pg_sub (pe_fld (pv 0) rfl) (pv 4) set_list)))
      (pss_one (ps_if (pt_cmpR op_gt (pv 1) pe_int (nomark _))
      (pss_cons (ps_asg (pe_ifExp (pt_cmpR op_eq (pv 1) pe_int (nomark _)) pe_int (pe_un un_neg pe_int)) (pg_sub (pe_fld (pv 0) rfl) (pv 4) set_list))
    (pss_cons (ps_asg pe_int (pg_sub (pe_fld (pv 0) rfl) (pv 4) set_list))
    (pss_one (ps_asg (pe_fld (pv 0) rfl) (pg_sub (pe_fld (pv 0) rfl) (pv 4) set_list)))))
      pss_nil)))
    (pss_cons (ps_asg (pe_fld (pv 0) rfl) (pg_sub (pe_fld (pv 0) rfl) (pv 4) set_list))
    (pss_one (ps_expr (pe_meth0 (pv 0) Z.o_LineModel.cl M_LineModel__go_on C_LineModel__go_on.G (hr.mono (by decide)) C_LineModel__go_on.b .nil passL))))))))), ?_⟩
  obtain ⟨F, A, m, j, rfl, z, ok, hp, hj, q⟩ := h
  obtain ⟨h5, et, hlen, hcs⟩ := ok.tab hp
  obtain ⟨hk, hpl, ht⟩ := ok.turn hp
  walk_at "r"
  refine ⟨A.a, A.dx, _, rfl, z.o, rfl, ?_⟩
  refine ⟨rfl, F, A, m, rfl, z, ok, .inr ⟨hp, fun p c H1 s1 hp1 h1 hc => ?_⟩⟩
  have z1 := z.of s1
  have st1 : Stp (fun c => c ∈ A.cells) F H F H1 := Stp.ofSame z.fh s1
  walk_at "r"
  refine ⟨rfl, ?_⟩
  walk_at "r"
  refine ifd (fun h => by cases h) (fun _ => ?_)
  walk_at "r"
  refine ifd (fun _ => ?_) (fun h => absurd (by omega) h)
  walk_at "r"
  refine ifn (fun _ => ?_) (fun h => absurd hj h)
  walk_at "r"
  refine ⟨A.a, _, A.dx, _, _, rfl, z1.o, Z.o_LineModel.cl, Z.n_LineModel__tables, rfl, ?_⟩
  walk_at "r"
  obtain ⟨t, ett, ot⟩ := z1.ts.2 _ _ et
  have mt := List.mem_of_getElem? ett
  refine s_ixL (.of (z1.fh _ _ z1.tl)) (at_nat' (by rw [List.getElem?_map, ett]; rfl)) ?_
  refine ⟨_, _, _, rfl, ot.1, rfl, ?_⟩
  walk_at "r"
  refine ⟨rfl, F, t.1, t.2.1, t.2.2, countsM m, j, rfl, ot, by have := hcs.le; have := sum_pos _ hcs.pos; omega, z1.fh, z1.fr _ (LMx.mt mt).1, z1.fr _ (LMx.mt mt).2, .inl ⟨by omega, by omega, fun c' H2 o2 s2 fc nc k2 k3 => ?_⟩⟩
  rw [Int.toNat_natCast] at o2
  obtain ⟨z2, cl2⟩ := z1.learn ett o2 s2 fc nc k2
  have st2 : Stp (fun c => c ∈ A.cells) F H1 F H2 := by
    refine ⟨Same.refl F, s2, fun _ _ _ => rfl, fun b o nb e => k2 b (fun h => nb (h ▸ (LMx.mt mt).1)) (fun h => nb (h ▸ (LMx.mt mt).2)) o e, fun b o e => ?_⟩
    by_cases h1 : b = t.1
    · rw [h1]; exact ⟨_, o2.1⟩
    · by_cases h2 : b = t.2.2
      · rw [h2]; exact k3
      · exact ⟨o, k2 b h1 h2 o e⟩
  replace st2 := st1.trans st2
  have ok2 : MOk (learnM m j) := learnM_ok ok hp hj
  replace z2 : LMx mg F H2 (A.setT (tabM m) t c') (learnM m j) := z2
  have cl3 : ∀ b ∈ (A.setT (tabM m) t c').cells, b ∈ A.cells ∨ H b = none := fun b hb => (cl2 b hb).imp id fun h => same_none s1 h
  have hq : ∀ F' H' tn tus, Stp (fun c => c ∈ A.cells) F H F' H' → LMx mg F' H' { A.setT (tabM m) t c' with tn := tn, tus := tus } (stepM m j) → Q .non H' := fun F' H' tn tus st zz => q F' H' { A.setT (tabM m) t c' with tn := tn, tus := tus } st zz rfl cl3
  have m1 : (A.setT (tabM m) t c').sg ∈ A.cells := LMx.msg A
  have m2 : (A.setT (tabM m) t c').sz ∈ A.cells := LMx.msz A
  have m3 : (A.setT (tabM m) t c').bg ∈ A.cells := LMx.mbg A
  have m4 : (A.setT (tabM m) t c').td ∈ A.cells := LMx.mtd A
  have m5 : (A.setT (tabM m) t c').a ∈ A.cells := LMx.ma A
  obtain ⟨B, hB⟩ : ∃ B, A.setT (tabM m) t c' = B := ⟨_, rfl⟩
  have hBa : A.a = B.a := by rw [← hB]; rfl
  rw [hB] at z2 hq m1 m2 m3 m4 m5
  rw [hBa]
  clear hB hBa cl3 cl2 o2 k2 k3 nc fc q et ot ett mt
  have e1 : (learnM m j).turns = m.turns := rfl
  have e2 : (learnM m j).spot = m.spot := rfl
  have e3 : (learnM m j).around = m.around := rfl
  have e4 : (learnM m j).plane = m.plane := rfl
  have hq' : ∀ F' H' tn tus, Stp (fun c => c ∈ A.cells) F H F' H' → LMx mg F' H' { B with tn := tn, tus := tus } (goOn (toldM (markM (learnM m j) (turnM m).1 (turnM m).2 j) (turnM m).2)) → Q .non H' := hq
  clear hq
  generalize learnM m j = n at z2 ok2 e1 e2 e3 e4 hq'
  rw [← e1, ← e2] at ht
  rw [← e3] at hpl
  rw [← e4] at hp
  generalize turnM m = kp at ht hpl hk hq'
  obtain ⟨kd, pc⟩ := kp
  dsimp only at ht hpl hk hq'
  obtain ⟨tq, etq, htq⟩ := z2.tu.2 _ _ ht
  walk_at "r"
  refine ⟨B.a, _, B.dx, _, _, rfl, z2.o, Z.o_LineModel.cl, Z.n_LineModel__turns, rfl, ?_⟩
  walk_at "r"
  refine ⟨B.a, _, B.dx, _, _, rfl, z2.o, Z.o_LineModel.cl, Z.n_LineModel__spot, rfl, ?_⟩
  refine s_ixL (.of (z2.fh _ _ z2.tn)) (at_nat' (by rw [List.getElem?_map, etq]; rfl)) ?_
  refine s_gtup (.of (z2.fh _ _ htq)) rfl ?_
  walk_at "r"
  refine ifd (fun h => ?_) (fun h => ?_)
  · have hk1 : kd = 1 := by dsimp only at h; omega
    walk_at "r"
    refine ⟨B.a, _, B.dx, _, _, rfl, z2.o, Z.o_LineModel.cl, Z.n_LineModel__sizes, rfl, ?_⟩
    walk_at "r"
    refine s_ixL (.of z2.sz) (sg_at (by rw [ok2.sz]; exact hpl)) ?_
    walk_at "r"
    refine ⟨B.a, _, B.dx, _, _, rfl, z2.o, Z.o_LineModel.cl, Z.n_LineModel__sizes, rfl, ?_⟩
    walk_at "r"
    refine s_setL z2.sz (ixN_of (by rw [List.length_map, ok2.sz]; exact hpl)) ?_
    rw [← List.map_set]
    have z3 : LMx mg F (upd H2 B.sz (.lst ((n.sizes.set pc (2 * n.sizes.getD pc 0 + j)).map V.int))) B (markM n kd pc j) := by
      have := z2.setSizes (n.sizes.set pc (2 * n.sizes.getD pc 0 + j))
      unfold markM
      rw [if_pos hk1]
      exact this
    have st3 := st2.trans (Stp.wr (o := .lst ((n.sizes.set pc (2 * n.sizes.getD pc 0 + j)).map V.int)) z2.fh m2 (z2.fr _ (LMx.msz B)))
    generalize upd _ B.sz (.lst ((n.sizes.set pc (2 * n.sizes.getD pc 0 + j)).map V.int)) = H3 at z3 st3 ⊢
    have ok3 : MOk (markM n kd pc j) := markM_ok ok2 _ _ _
    obtain ⟨a1, a2, a3, a4, a5⟩ := markM_same n kd pc j
    generalize markM n kd pc j = n3 at z3 ok3 a1 a2 a3 a4 a5 hq'
    walk_at "r"
    refine ⟨B.a, _, B.dx, _, _, rfl, z3.o, Z.o_LineModel.cl, Z.n_LineModel__plane, rfl, ?_⟩
    walk_at "r"
    refine ⟨B.a, _, B.dx, _, _, rfl, z3.o, Z.o_LineModel.cl, Z.n_LineModel__told, rfl, ?_⟩
    walk_at "r"
    refine s_setL z3.td (ixN_of (by rw [List.length_map, ok3.td, a4]; exact hpl)) ?_
    rw [← List.map_set]
    have z4 : LMx mg F (upd H3 B.td (.lst ((n3.told.set pc n3.plane).map V.int))) B (toldM n3 pc) := z3.setTold (n3.told.set pc n3.plane)
    have st4 := st3.trans (Stp.wr (o := .lst ((n3.told.set pc n3.plane).map V.int)) z3.fh m4 (z3.fr _ (LMx.mtd B)))
    generalize upd _ B.td (.lst ((n3.told.set pc n3.plane).map V.int)) = H4 at z4 st4 ⊢
    walk_at "r"
    refine ⟨B.a, B.dx, _, rfl, z4.o, rfl, ?_⟩
    refine ⟨rfl, F, B, toldM n3 pc, rfl, z4, toldM_ok ok3 _, by show 0 ≤ n3.plane; rw [a1]; exact hp, fun F' H' tn tus st5 z5 => ?_⟩
    exact hq' F' H' tn tus (st4.trans (st5.sub fun (b : Addr) (e : b = B.a) => by rw [e]; exact m5)) z5
  have hk1 : ¬ kd = 1 := by dsimp only at h; omega
  walk_at "r"
  refine ifd (fun h => ?_) (fun h => ?_)
  rotate_left
  · have hj0 : ¬ 0 < j := by omega
    walk_at "r"
    have z3 : LMx mg F H2 B (markM n kd pc j) := by
      unfold markM
      rw [if_neg hk1, if_neg hj0]
      exact z2
    have st3 := st2
    clear z2 st2
    generalize H2 = H3 at z3 st3 ⊢
    have ok3 : MOk (markM n kd pc j) := markM_ok ok2 _ _ _
    obtain ⟨a1, a2, a3, a4, a5⟩ := markM_same n kd pc j
    generalize markM n kd pc j = n3 at z3 ok3 a1 a2 a3 a4 a5 hq'
    walk_at "r"
    refine ⟨B.a, _, B.dx, _, _, rfl, z3.o, Z.o_LineModel.cl, Z.n_LineModel__plane, rfl, ?_⟩
    walk_at "r"
    refine ⟨B.a, _, B.dx, _, _, rfl, z3.o, Z.o_LineModel.cl, Z.n_LineModel__told, rfl, ?_⟩
    walk_at "r"
    refine s_setL z3.td (ixN_of (by rw [List.length_map, ok3.td, a4]; exact hpl)) ?_
    rw [← List.map_set]
    have z4 : LMx mg F (upd H3 B.td (.lst ((n3.told.set pc n3.plane).map V.int))) B (toldM n3 pc) := z3.setTold (n3.told.set pc n3.plane)
    have st4 := st3.trans (Stp.wr (o := .lst ((n3.told.set pc n3.plane).map V.int)) z3.fh m4 (z3.fr _ (LMx.mtd B)))
    generalize upd _ B.td (.lst ((n3.told.set pc n3.plane).map V.int)) = H4 at z4 st4 ⊢
    walk_at "r"
    refine ⟨B.a, B.dx, _, rfl, z4.o, rfl, ?_⟩
    refine ⟨rfl, F, B, toldM n3 pc, rfl, z4, toldM_ok ok3 _, by show 0 ≤ n3.plane; rw [a1]; exact hp, fun F' H' tn tus st5 z5 => ?_⟩
    exact hq' F' H' tn tus (st4.trans (st5.sub fun (b : Addr) (e : b = B.a) => by rw [e]; exact m5)) z5
  have hj0 : 0 < j := by omega
  walk_at "r"
  refine ifd (fun h1 => ?_) (fun h1 => ?_)
  · have es : (if j = 1 then (1 : Int) else -1) = 1 := if_pos (by omega)
    walk_at "r"
    refine ⟨B.a, _, B.dx, _, _, rfl, z2.o, Z.o_LineModel.cl, Z.n_LineModel__signs, rfl, ?_⟩
    walk_at "r"
    refine s_setL z2.sg (ixN_of (by rw [List.length_map, ok2.sg]; exact hpl)) ?_
    rw [← List.map_set]
    have z5 := z2.setSigns (n.signs.set pc (1))
    have st5 := st2.trans (Stp.wr (o := .lst ((n.signs.set pc (1)).map V.int)) z2.fh m1 (z2.fr _ (LMx.msg B)))
    generalize upd H2 B.sg (.lst ((n.signs.set pc (1)).map V.int)) = H5 at z5 st5 ⊢
    walk_at "r"
    refine ⟨B.a, _, B.dx, _, _, rfl, z5.o, Z.o_LineModel.cl, Z.n_LineModel__sizes, rfl, ?_⟩
    walk_at "r"
    refine s_setL z5.sz (ixN_of (by rw [List.length_map]; show pc < n.sizes.length; rw [ok2.sz]; exact hpl)) ?_
    rw [← List.map_set]
    have z6 := z5.setSizes (n.sizes.set pc 1)
    have st6 := st5.trans (Stp.wr (o := .lst ((n.sizes.set pc 1).map V.int)) z5.fh m2 (z5.fr _ (LMx.msz B)))
    generalize upd H5 B.sz (.lst ((n.sizes.set pc 1).map V.int)) = H6 at z6 st6 ⊢
    walk_at "r"
    refine ⟨B.a, _, B.dx, _, _, rfl, z6.o, Z.o_LineModel.cl, Z.n_LineModel__plane, rfl, ?_⟩
    walk_at "r"
    refine ⟨B.a, _, B.dx, _, _, rfl, z6.o, Z.o_LineModel.cl, Z.n_LineModel__begun, rfl, ?_⟩
    walk_at "r"
    refine s_setL z6.bg (ixN_of (by rw [List.length_map]; show pc < n.begun.length; rw [ok2.bg]; exact hpl)) ?_
    rw [← List.map_set]
    have z3 : LMx mg F (upd H6 B.bg (.lst ((n.begun.set pc n.plane).map V.int))) B (markM n kd pc j) := by
      have := z6.setBegun (n.begun.set pc n.plane)
      unfold markM
      rw [if_neg hk1, if_pos hj0, es]
      exact this
    have st3 := st6.trans (Stp.wr (o := .lst ((n.begun.set pc n.plane).map V.int)) z6.fh m3 (z6.fr _ (LMx.mbg B)))
    generalize upd H6 B.bg (.lst ((n.begun.set pc n.plane).map V.int)) = H3 at z3 st3 ⊢
    have ok3 : MOk (markM n kd pc j) := markM_ok ok2 _ _ _
    obtain ⟨a1, a2, a3, a4, a5⟩ := markM_same n kd pc j
    generalize markM n kd pc j = n3 at z3 ok3 a1 a2 a3 a4 a5 hq'
    walk_at "r"
    refine ⟨B.a, _, B.dx, _, _, rfl, z3.o, Z.o_LineModel.cl, Z.n_LineModel__plane, rfl, ?_⟩
    walk_at "r"
    refine ⟨B.a, _, B.dx, _, _, rfl, z3.o, Z.o_LineModel.cl, Z.n_LineModel__told, rfl, ?_⟩
    walk_at "r"
    refine s_setL z3.td (ixN_of (by rw [List.length_map, ok3.td, a4]; exact hpl)) ?_
    rw [← List.map_set]
    have z4 : LMx mg F (upd H3 B.td (.lst ((n3.told.set pc n3.plane).map V.int))) B (toldM n3 pc) := z3.setTold (n3.told.set pc n3.plane)
    have st4 := st3.trans (Stp.wr (o := .lst ((n3.told.set pc n3.plane).map V.int)) z3.fh m4 (z3.fr _ (LMx.mtd B)))
    generalize upd _ B.td (.lst ((n3.told.set pc n3.plane).map V.int)) = H4 at z4 st4 ⊢
    walk_at "r"
    refine ⟨B.a, B.dx, _, rfl, z4.o, rfl, ?_⟩
    refine ⟨rfl, F, B, toldM n3 pc, rfl, z4, toldM_ok ok3 _, by show 0 ≤ n3.plane; rw [a1]; exact hp, fun F' H' tn tus st5 z5 => ?_⟩
    exact hq' F' H' tn tus (st4.trans (st5.sub fun (b : Addr) (e : b = B.a) => by rw [e]; exact m5)) z5
  · have es : (if j = 1 then (1 : Int) else -1) = -1 := if_neg (by omega)
    walk_at "r"
    refine ⟨B.a, _, B.dx, _, _, rfl, z2.o, Z.o_LineModel.cl, Z.n_LineModel__signs, rfl, ?_⟩
    walk_at "r"
    refine s_setL z2.sg (ixN_of (by rw [List.length_map, ok2.sg]; exact hpl)) ?_
    rw [← List.map_set]
    have z5 := z2.setSigns (n.signs.set pc (-1))
    have st5 := st2.trans (Stp.wr (o := .lst ((n.signs.set pc (-1)).map V.int)) z2.fh m1 (z2.fr _ (LMx.msg B)))
    generalize upd H2 B.sg (.lst ((n.signs.set pc (-1)).map V.int)) = H5 at z5 st5 ⊢
    walk_at "r"
    refine ⟨B.a, _, B.dx, _, _, rfl, z5.o, Z.o_LineModel.cl, Z.n_LineModel__sizes, rfl, ?_⟩
    walk_at "r"
    refine s_setL z5.sz (ixN_of (by rw [List.length_map]; show pc < n.sizes.length; rw [ok2.sz]; exact hpl)) ?_
    rw [← List.map_set]
    have z6 := z5.setSizes (n.sizes.set pc 1)
    have st6 := st5.trans (Stp.wr (o := .lst ((n.sizes.set pc 1).map V.int)) z5.fh m2 (z5.fr _ (LMx.msz B)))
    generalize upd H5 B.sz (.lst ((n.sizes.set pc 1).map V.int)) = H6 at z6 st6 ⊢
    walk_at "r"
    refine ⟨B.a, _, B.dx, _, _, rfl, z6.o, Z.o_LineModel.cl, Z.n_LineModel__plane, rfl, ?_⟩
    walk_at "r"
    refine ⟨B.a, _, B.dx, _, _, rfl, z6.o, Z.o_LineModel.cl, Z.n_LineModel__begun, rfl, ?_⟩
    walk_at "r"
    refine s_setL z6.bg (ixN_of (by rw [List.length_map]; show pc < n.begun.length; rw [ok2.bg]; exact hpl)) ?_
    rw [← List.map_set]
    have z3 : LMx mg F (upd H6 B.bg (.lst ((n.begun.set pc n.plane).map V.int))) B (markM n kd pc j) := by
      have := z6.setBegun (n.begun.set pc n.plane)
      unfold markM
      rw [if_neg hk1, if_pos hj0, es]
      exact this
    have st3 := st6.trans (Stp.wr (o := .lst ((n.begun.set pc n.plane).map V.int)) z6.fh m3 (z6.fr _ (LMx.mbg B)))
    generalize upd H6 B.bg (.lst ((n.begun.set pc n.plane).map V.int)) = H3 at z3 st3 ⊢
    have ok3 : MOk (markM n kd pc j) := markM_ok ok2 _ _ _
    obtain ⟨a1, a2, a3, a4, a5⟩ := markM_same n kd pc j
    generalize markM n kd pc j = n3 at z3 ok3 a1 a2 a3 a4 a5 hq'
    walk_at "r"
    refine ⟨B.a, _, B.dx, _, _, rfl, z3.o, Z.o_LineModel.cl, Z.n_LineModel__plane, rfl, ?_⟩
    walk_at "r"
    refine ⟨B.a, _, B.dx, _, _, rfl, z3.o, Z.o_LineModel.cl, Z.n_LineModel__told, rfl, ?_⟩
    walk_at "r"
    refine s_setL z3.td (ixN_of (by rw [List.length_map, ok3.td, a4]; exact hpl)) ?_
    rw [← List.map_set]
    have z4 : LMx mg F (upd H3 B.td (.lst ((n3.told.set pc n3.plane).map V.int))) B (toldM n3 pc) := z3.setTold (n3.told.set pc n3.plane)
    have st4 := st3.trans (Stp.wr (o := .lst ((n3.told.set pc n3.plane).map V.int)) z3.fh m4 (z3.fr _ (LMx.mtd B)))
    generalize upd _ B.td (.lst ((n3.told.set pc n3.plane).map V.int)) = H4 at z4 st4 ⊢
    walk_at "r"
    refine ⟨B.a, B.dx, _, rfl, z4.o, rfl, ?_⟩
    refine ⟨rfl, F, B, toldM n3 pc, rfl, z4, toldM_ok ok3 _, by show 0 ≤ n3.plane; rw [a1]; exact hp, fun F' H' tn tus st5 z5 => ?_⟩
    exact hq' F' H' tn tus (st4.trans (st5.sub fun (b : Addr) (e : b = B.a) => by rw [e]; exact m5)) z5
abbrev s_told_letters : Stmt := topS 22
theorem sc_told_letters : FnScope ["bits", "model", "value", "node", "found", "letter"] ["bits", "model"] (defScope s_told_letters) := ⟨rfl, rfl, rfl, by decide +kernel, rfl, by decide +kernel, by decide +kernel⟩
def Ok_told_letters (P : Program) (w : World) (K : PySem.W.Frag) (mg : Str → Option Value) (base : Heap) : Prop := ∃ fA fd, Fn P w K mg base (L2.CX P w) 5 "told_letters" s_told_letters fA fd ["bits", "model"] (sp_told_letters K mg)
theorem okx_told_letters (Z : Zs K mg) {fA : Addr} {fd : FuncData} (F : Fun K "told_letters" "told_letters" s_told_letters fA fd) (m : mg "told_letters" = some (.ref fA)) (C_LineModel_wanted : Ok_LineModel_wanted P w K mg base) (C_LineModel_take : Ok_LineModel_take P w K mg base) (C_told_child : Ok_told_child P w K mg base) (C_LineModel_wanted_counts : Ok_LineModel_wanted_counts P w K mg base) (C_number_of : Ok_number_of P w K mg base) (C_check_bits : Ok_check_bits P w K mg base) : Fn P w K mg base (L2.CX P w) 5 "told_letters" s_told_letters fA fd ["bits", "model"] (sp_told_letters K mg) := by
  obtain ⟨_, _, C_LineModel_wanted, M_LineModel_wanted⟩ := C_LineModel_wanted
  obtain ⟨_, _, C_LineModel_take, M_LineModel_take⟩ := C_LineModel_take
  obtain ⟨_, _, C_told_child⟩ := C_told_child
  obtain ⟨_, _, C_LineModel_wanted_counts, M_LineModel_wanted_counts⟩ := C_LineModel_wanted_counts
  obtain ⟨_, _, C_number_of⟩ := C_number_of
  obtain ⟨_, _, C_check_bits⟩ := C_check_bits
  refine ⟨F.okX sc_told_letters (fun vs H Q E h => h.1) (fun cdv A outer s H vs Q E hr h => ?_), m, F.kp, F.binds fun _ _ _ _ _ _ us hl => match us, hl with | [_, _], _ => rfl, F⟩
  have hu64 := hr.units
  obtain ⟨hlen, h⟩ := h
  refine ⟨_, (pss_cons (ps_expr (pe_call C_check_bits.G (hr.mono (by decide)) rfl C_check_bits.m C_check_bits.kp C_check_bits.b .nil passL (pa_cons (pv 0) pa_nil)))
    (pss_cons (ps_par3 (i := 2) (j := 3) (l := 4) (by rfl) sc_told_letters.nd rfl rfl rfl (by decide) (by decide) (by decide) rfl rfl rfl (pa_cons (pe_call C_number_of.G (hr.mono (by decide)) rfl C_number_of.m C_number_of.kp C_number_of.b .nil passL (pa_cons (pv 0) pa_nil)) (pa_cons (pe_glob (v := .ref (exA mg "ROOT")) rfl Z.t_ROOT.1 rfl) (pa_cons (pe_lst pa_nil) pa_nil))) (by rfl))
    (pss_cons (ps_while (passes_of rfl) (pt_cmpR op_notN (pe_meth0 (pv 1) Z.o_LineModel.cl M_LineModel_wanted C_LineModel_wanted.G (hr.mono (by decide)) C_LineModel_wanted.b .nil passL) pe_non (nomark _))
      (pss_cons (ps_asg (pe_call C_told_child.G (hr.mono (by decide)) rfl C_told_child.m C_told_child.kp C_told_child.b .nil passL (pa_cons (pv 3) (pa_cons (pe_meth0 (pv 1) Z.o_LineModel.cl M_LineModel_wanted_counts C_LineModel_wanted_counts.G (hr.mono (by decide)) C_LineModel_wanted_counts.b .nil passL) (pa_cons (pv 2) (pa_cons (pe_callB (c_len K rfl) (by rfl) Z.z_len (by decide +kernel) (pa_cons (pv 0) pa_nil)) pa_nil))))) (pg_tup rfl (pgs_cons (pg_name (i := 5) sc_told_letters.nd rfl (Or.inl rfl)) (pgs_cons (pg_name (i := 3) sc_told_letters.nd rfl (Or.inl rfl)) pgs_nil))))
    (pss_cons (ps_if (pt_cmpR op_isN (pv 5) pe_non (nomark _))
      (pss_one (ps_ret (pv 4)))
      pss_nil)
    (pss_cons (ps_expr (pe_meth (pv 1) Z.o_LineModel.cl M_LineModel_take C_LineModel_take.G (hr.mono (by decide)) C_LineModel_take.b .nil passL (pa_cons (pv 5) pa_nil)))
    (pss_one (ps_expr (pe_bm PySem.F.plainAttrs_list PySem.F.slot_list_append PySem.F.type_list_append mt_append (pv 4) (pa_cons (pv 5) pa_nil))))))))
    (pss_one (ps_ret (pv 4)))))), ?_⟩
  obtain ⟨F, A, m, b, bs, rfl, z, ok, hlf, hb, hbs, hlen, q⟩ := h
  walk_at "r"
  refine ⟨rfl, b, _, rfl, z.fh.seq hb, thg_ints _ _, .inl ⟨good_bits hbs, ?_⟩⟩
  walk_at "r"
  refine ⟨rfl, b, bs, rfl, z.fh.seq hb, ?_⟩
  walk_at "r"
  refine ⟨sz (by simp), fun p hp => ?_⟩
  have hv := numL_go bs 0 hbs (Int.le_refl 0)
  have hv0 : 0 ≤ numL bs := hv.1
  have hv1 : numL bs < 2 ^ bs.length := by have := hv.2; rw [Int.zero_add, Int.one_mul] at this; exact this
  have nFp : F p = none := z.fh.free hp
  have hbN : SqL K F b (bs.map V.int) := hb
  have st0 : Stp (fun c => c ∈ A.cells) F H F (upd H p (.lst [])) := Stp.cell z.fh hp
  have root : ∀ H, SqNd K H (exA mg "ROOT") rootN := fun H => Z.t_ROOT.2 H
  have hspm : ∀ vs H (Q Q' : VK), (∀ v H1, Q v H1 → Q' v H1) → sp_LineModel_wanted K mg vs H Q E0 → sp_LineModel_wanted K mg vs H Q' E0 := fun vs H Q Q' hq ⟨e, F, A, m, e2, z, ok, h⟩ => ⟨e, F, A, m, e2, z, ok, h.imp (fun ⟨a, b⟩ => ⟨a, hq _ _ b⟩) fun ⟨a, b⟩ => ⟨a, fun p c H' s n e1 e2 => hq _ _ (b p c H' s n e1 e2)⟩⟩
  walk_at "r"
  refine whileM (mon_test (mon_op mon_notN (mon_meth hspm mon_var mon_nil) mon_c)) (fun σ H' => ∃ (js : List Nat) (m' : Mdl) (nd : Nd) (B : LA) (Fc : Hp) (na : Addr) (v5 : Option V), σ = [some (.ref b), some (.ref B.a), some (.int (numL bs)), some (.ref na), some (.ref p), v5] ∧ Path (TellJ (numL bs) bs.length) m rootN js m' nd ∧ Stp (fun c => c ∈ A.cells) F H Fc H' ∧ LMx mg Fc H' B m' ∧ B.a = A.a ∧
      (∀ c ∈ B.cells, c ∈ A.cells ∨ H c = none) ∧ MOk m' ∧ Fc p = none ∧ H' p = some (.lst (js.map fun (j : Nat) => V.int (j : Int))) ∧ p ∉ B.cells ∧ SqNd K Fc na nd ∧ NdOk nd ∧ nd.s ≤ 16 + 6 * js.length ∧ js.length + leftM m' = leftM m)
    (fun σ H' => match σ with
      | [_, _, _, _, some (.ref p), _] => (match H' p with | some (.lst xs) => 200 - xs.length | _ => 0)
      | _ => 0) ⟨[], m, rootN, A, F, _, _, rfl, .nil, st0, z.beside nFp (z.not_new hp), rfl, fun c hc => .inl hc, ok, nFp, upd_same, z.not_new hp, root F, ⟨by decide, by decide, by decide, by decide, by decide⟩, by decide, by simp⟩ ?_
  rintro σ H1 ⟨js, m', nd, B, Fc, na, v5, rfl, hpath, st1, z1, hBa, hBc, ok1, nFc, e1, np1, hna, ndk, hns, hleft⟩
  have fin : ∀ (H2 : Hp), Same H1 H2 → (m'.plane < 0 ∨ (0 ≤ m'.plane ∧ NoneJ (numL bs) bs.length nd (countsM m'))) → Q (.ref p) H2 := fun H2 s2 hend => by
    have st2 := st1.trans (Stp.ofSame z1.fh s2)
    have z2 := z1.of s2
    have e2 := s2 _ _ e1
    exact q js m' _ H2 B p ⟨nd, hpath, hend⟩ (st2.freeze hp e2 nFc) (z2.frz e2 nFc np1) hBa hBc ok1 hp upd_same
  walk_at "r"
  refine ⟨B.a, B.dx, _, rfl, z1.o, rfl, ?_⟩
  by_cases hpl : m'.plane < 0
  · refine ⟨rfl, Fc, B, m', rfl, z1, ok1, .inl ⟨hpl, ?_⟩⟩
    walk_at "r"
    refine ⟨rfl, ?_⟩
    walk_at "r"
    refine ifn (fun _ => ?_) (fun h => absurd rfl h)
    walk_at "r"
    exact fin H1 (Same.refl _) (.inl hpl)
  have hpl : 0 ≤ m'.plane := by omega
  refine ⟨rfl, Fc, B, m', rfl, z1, ok1, .inr ⟨hpl, fun p2 c2 H2 s2 _ _ _ => ?_⟩⟩
  have z2 := z1.of s2
  walk_at "r"
  refine ⟨rfl, ?_⟩
  walk_at "r"
  refine ifn (fun h => by cases h) (fun _ => ?_)
  walk_at "r"
  refine ⟨B.a, B.dx, _, rfl, z2.o, rfl, ?_⟩
  obtain ⟨_, _, hcl, hco⟩ := ok1.tab hpl
  have hc3 : (countsM m').length ≤ 3 := by
    have : manyM m' ≤ 3 := by unfold manyM; split <;> decide
    omega
  refine ⟨rfl, Fc, B, m', rfl, z2, ok1, .inr ⟨hpl, fun cp H3 s3 ncp hcp => ?_⟩⟩
  have z3 := z2.of s3
  walk_at "r"
  refine s_len (z3.fh.seq (st1.ff.seq hbN)) ?_
  walk_at "r"
  rw [List.length_map]
  refine ⟨rfl, na, cp, nd, countsM m', numL bs, bs.length, rfl, seqT' z3.fh hna, .of hcp, hco, hc3, ndk, by omega, hlen, hv0, hv1, fun j hj p4 c4 H4 s4 n4 e4 nc4 ec4 => ?_, fun hno p4 H4 s4 n4 e4 => ?_⟩
  rotate_left
  · refine s_gtup (.of e4) rfl ?_
    walk_at "r"
    refine ⟨rfl, ?_⟩
    walk_at "r"
    refine ifd (fun _ => ?_) (fun h => absurd rfl h)
    walk_at "r"
    exact fin H4 (s2.trans (s3.trans s4)) (.inr ⟨hpl, hno⟩)
  refine s_gtup (.of e4) rfl ?_
  walk_at "r"
  refine ⟨rfl, ?_⟩
  walk_at "r"
  refine ifd (fun h => by cases h) (fun _ => ?_)
  have s14 := s2.trans (s3.trans s4)
  have z4 := z1.of s14
  have nH1 : H1 c4 = none := same_none (s2.trans s3) nc4
  have nHc : H c4 = none := none_of' st1 nH1
  have nFc4 : Fc c4 = none := z1.fh.free nH1
  have st4 := (st1.trans (Stp.ofSame z1.fh s14)).freeze nHc ec4 nFc4
  have z5 := z4.frz ec4 nFc4 (z1.not_new nH1)
  have ef5 : upd Fc c4 (.tup [.int (childN nd (countsM m') j).l, .int (childN nd (countsM m') j).w, .int ((childN nd (countsM m') j).s : Nat)]) c4 = some (.tup [.int (childN nd (countsM m') j).l, .int (childN nd (countsM m') j).w, .int ((childN nd (countsM m') j).s : Nat)]) := upd_same
  have npc : p ≠ c4 := fun h => by rw [← h, e1] at nH1; cases nH1
  have nF5 : upd Fc c4 (.tup [.int (childN nd (countsM m') j).l, .int (childN nd (countsM m') j).w, .int ((childN nd (countsM m') j).s : Nat)]) p = none := by rw [upd_ne npc]; exact nFc
  generalize upd Fc c4 _ = F5 at st4 z5 ef5 nF5
  have hjm : (j : Int) < manyM m' := by have := hj.1; omega
  walk_at "r"
  refine ⟨B.a, B.dx, _, rfl, z5.o, rfl, ?_⟩
  walk_at "r"
  refine ⟨rfl, F5, B, m', j, rfl, z5, ok1, hpl, hjm, fun F6 H6 B' st6 z6 hB' hBc' => ?_⟩
  have e4p := s14 _ _ e1
  have e6p := st6.keep _ _ np1 e4p
  have nF6 : F6 p = none := by rw [st6.fo _ _ e4p]; exact nF5
  have np6 : p ∉ B'.cells := fun h => by
    rcases hBc' p h with h | h
    · exact np1 h
    · rw [e4p] at h; cases h
  have hBc6 : ∀ c ∈ B'.cells, c ∈ A.cells ∨ H c = none := fun c hc => by
    rcases hBc' c hc with h | h
    · exact hBc c h
    · exact .inr (none_of' st4 h)
  have st46 := st4.transN st6 fun c hc => hBc c hc
  have stw : Stp (fun c => c = p) F6 H6 F6 (upd H6 p (.lst ((js ++ [j]).map fun (j : Nat) => V.int (j : Int)))) := Stp.wr z6.fh rfl nF6
  have st7 := st46.transN stw fun c hc => .inr (by rw [hc]; exact hp)
  have z7 := z6.beside (o := .lst ((js ++ [j]).map fun (j : Nat) => V.int (j : Int))) nF6 np6
  have hl' := stepM_left ok1 hpl j
  walk_at "r"
  refine ⟨.inl ⟨rfl, _, SqL.of e6p⟩, ?_⟩
  walk_at "r"
  refine ⟨p, _, _, rfl, rfl, e6p, Nat.lt_of_lt_of_le (m := 10000) (by rw [List.length_map]; omega) (by decide), ?_⟩
  have ejs : (js.map fun (j : Nat) => V.int (j : Int)) ++ [V.int (j : Int)] = (js ++ [j]).map fun (j : Nat) => V.int (j : Int) := by rw [List.map_append]; rfl
  rw [ejs]
  refine ⟨⟨js ++ [j], stepM m' j, childN nd (countsM m') j, B', F6, c4, some (.int (j : Int)), ?_, .snoc hpath hpl hj.1 hj, st7, z7, hB'.trans hBa, hBc6, stepM_ok ok1 hpl hjm, nF6, upd_same, np6, SqT.of (st6.ff _ _ ef5), childN_ok ndk hco hj.1, ?_, ?_⟩, ?_⟩
  · rw [hB']; rfl
  · rw [List.length_append]
    have hk := isK_le (isK_ex (part_wide hco ndk.w0 hj.1)) (part_wide hco ndk.w0 hj.1)
    show nd.s + kOf _ ≤ _
    simp only [List.length_cons, List.length_nil]
    omega
  · rw [List.length_append]
    simp only [List.length_cons, List.length_nil]
    omega
  · show (match upd H6 p _ p with | some (.lst xs) => 200 - xs.length | _ => 0) < (match H1 p with | some (.lst xs) => 200 - xs.length | _ => 0)
    rw [upd_same, e1]
    simp only [List.length_map, List.length_append, List.length_cons, List.length_nil]
    omega
abbrev s_law_pool : Stmt := topS 41
theorem sc_law_pool : FnScope ["_law_script", "_law_k", "_law_cell", "_law_big", "_law_mixed"] ["_law_script", "_law_k"] (defScope s_law_pool) := ⟨rfl, rfl, rfl, by decide +kernel, rfl, by decide +kernel, by decide +kernel⟩
def Ok_law_pool (P : Program) (w : World) (K : PySem.W.Frag) (mg : Str → Option Value) (base : Heap) : Prop := ∃ fA fd, Fn P w K mg base (L2.CX P w) 1 "_law_pool" s_law_pool fA fd ["_law_script", "_law_k"] (sp_law_pool K mg)
theorem okx_law_pool (Z : Zs K mg) {fA : Addr} {fd : FuncData} (F : Fun K "_law_pool" "_law_pool" s_law_pool fA fd) (m : mg "_law_pool" = some (.ref fA))  : Fn P w K mg base (L2.CX P w) 1 "_law_pool" s_law_pool fA fd ["_law_script", "_law_k"] (sp_law_pool K mg) := by
  refine ⟨F.okX sc_law_pool (fun vs H Q E h => h.1) (fun cdv A outer s H vs Q E hr h => ?_), m, F.kp, F.binds fun _ _ _ _ _ _ us hl => match us, hl with | [_, _], _ => rfl, F⟩
  have hu64 := hr.units
  obtain ⟨hlen, h⟩ := h
  refine ⟨_, (pss_cons (ps_set (i := 2) sc_law_pool.nd rfl (Or.inl rfl) pe_int)
    (pss_cons (ps_if (pt_cmpR op_lt (pv 1) (pe_callB (c_len K rfl) (by rfl) Z.z_len (by decide +kernel) (pa_cons (pv 0) pa_nil)) (nomark _))
      (pss_one (ps_set (i := 2) sc_law_pool.nd rfl (Or.inl rfl) (pe_ix (i_list K rfl) (pv 0) (pv 1) (fun _ _ => rfl))))
      pss_nil)
    (pss_cons (ps_set (i := 3) sc_law_pool.nd rfl (Or.inl rfl) (pe_callB (c_max2 rfl) (by rfl) Z.z_max (by decide +kernel) (pa_cons (pe_callTy c_int1 (by rfl) Z.z_int (by decide +kernel) (pa_cons (pv 2) pa_nil)) (pa_cons (pe_callTy c_int1 (by rfl) Z.z_int (by decide +kernel) (pa_cons (pe_op op_sub (pe_un un_neg pe_int) (pv 2)) pa_nil)) pa_nil))))
    (pss_cons (ps_set (i := 4) sc_law_pool.nd rfl (Or.inl rfl) (pe_op op_mod (pe_callTy c_int1 (by rfl) Z.z_int (by decide +kernel) (pa_cons (pe_op op_mul (pe_op op_add (pe_op op_add (pe_op op_add (pe_op op_mod (pe_callTy c_int1 (by rfl) Z.z_int (by decide +kernel) (pa_cons (pv 3) pa_nil)) pe_int) (pe_op op_mul (pe_op op_mul pe_int (pv 1)) (pv 1))) (pe_op op_mul pe_int (pv 1))) pe_int) pe_int) pa_nil)) pe_int))
    (pss_one (ps_ret (pe_lst (pa_cons (pe_op op_mul (pv 3) (pe_callTy c_int1 (by rfl) Z.z_int (by decide +kernel) (pa_cons (pe_cmpR op_ge (pv 3) (pe_op op_pow pe_int pe_int) (nomark _)) pa_nil))) (pa_cons (pv 4) pa_nil))))))))), ?_⟩
  obtain ⟨s, ns, k, rfl, hS, hk0, hk, q⟩ := h
  have fin : ∀ (x y : Int), 0 ≤ y → y < 2147483647 → (∀ p, H p = none → Q (.ref p) (upd H p (.lst [.int x, .int y]))) := fun x y y0 y1 p hp =>
    q p _ ⟨(Stp.new (S := S0) (Same.refl H) hp).same, hp, x, y, upd_same, y0, y1⟩
  walk_at "r"
  refine ifd (fun h => ?_) (fun h => ?_)
  · walk_at "r"
    have hl : k.toNat < ns.length := by simp at h; omega
    refine s_ixL hS (at_of (j := k.toNat) (by omega) (get_int hl)) ?_
    walk_at "r"
    exact ⟨sz (by simp), fin _ _ (Int.emod_nonneg _ (by decide)) (Int.emod_lt_of_pos _ (by decide))⟩
  · walk_at "r"
    exact ⟨sz (by simp), fin _ _ (Int.emod_nonneg _ (by decide)) (Int.emod_lt_of_pos _ (by decide))⟩
abbrev s_law_take : Stmt := topS 42
theorem sc_law_take : FnScope ["_law_source", "_law_most", "_law_drawn"] ["_law_source", "_law_most"] (defScope s_law_take) := ⟨rfl, rfl, rfl, by decide +kernel, rfl, by decide +kernel, by decide +kernel⟩
def Ok_law_take (P : Program) (w : World) (K : PySem.W.Frag) (mg : Str → Option Value) (base : Heap) : Prop := ∃ fA fd, Fn P w K mg base (L2.CX P w) 1 "_law_take" s_law_take fA fd ["_law_source", "_law_most"] (sp_law_take K mg)
theorem okx_law_take (Z : Zs K mg) {fA : Addr} {fd : FuncData} (F : Fun K "_law_take" "_law_take" s_law_take fA fd) (m : mg "_law_take" = some (.ref fA))  : Fn P w K mg base (L2.CX P w) 1 "_law_take" s_law_take fA fd ["_law_source", "_law_most"] (sp_law_take K mg) := by
  refine ⟨F.okX sc_law_take (fun vs H Q E h => h.1) (fun cdv A outer s H vs Q E hr h => ?_), m, F.kp, F.binds fun _ _ _ _ _ _ us hl => match us, hl with | [_, _], _ => rfl, F⟩
  have hu64 := hr.units
  obtain ⟨hlen, h⟩ := h
  refine ⟨_, (pss_cons (ps_if (pt_cmpR op_gt (pe_ix (i_list K rfl) (pv 0) pe_int (fun _ _ => rfl)) pe_int (nomark _))
      (pss_cons (ps_set (i := 2) sc_law_take.nd rfl (Or.inl rfl) (pe_op op_mod (pe_callTy c_int1 (by rfl) Z.z_int (by decide +kernel) (pa_cons (pe_ix (i_list K rfl) (pv 0) pe_int (fun _ _ => rfl)) pa_nil)) (pv 1)))
    (pss_cons (ps_asg (pe_op op_fdiv (pe_ix (i_list K rfl) (pv 0) pe_int (fun _ _ => rfl)) (pv 1)) (pg_sub (pv 0) pe_int set_list))
    (pss_one (ps_ret (pv 2)))))
      pss_nil)
    (pss_cons (ps_asg (pe_op op_mod (pe_callTy c_int1 (by rfl) Z.z_int (by decide +kernel) (pa_cons (pe_op op_add (pe_op op_mul (pe_ix (i_list K rfl) (pv 0) pe_int (fun _ _ => rfl)) pe_int) pe_int) pa_nil)) pe_int) (pg_sub (pv 0) pe_int set_list))
    (pss_one (ps_ret (pe_op op_mod (pe_callTy c_int1 (by rfl) Z.z_int (by decide +kernel) (pa_cons (pe_op op_fdiv (pe_op op_mod (pe_callTy c_int1 (by rfl) Z.z_int (by decide +kernel) (pa_cons (pe_op op_mul (pe_ix (i_list K rfl) (pv 0) pe_int (fun _ _ => rfl)) (pe_ix (i_list K rfl) (pv 0) pe_int (fun _ _ => rfl))) pa_nil)) pe_int) pe_int) pa_nil)) (pv 1)))))), ?_⟩
  obtain ⟨F0, p, t, rfl, hs, ht, ht2, q⟩ := h
  obtain ⟨hs0, hp0, a, b, hp, hb0, hb1⟩ := id hs
  have st : ∀ o, Stp (S1 p) F0 H F0 (upd H p o) := fun o => Stp.wr hs0 rfl hp0
  walk_at "r"
  refine ifd (fun h => ?_) (fun h => ?_)
  · walk_at "r"
    exact q _ _ (hs.wr hb0 hb1) (st _) (Int.emod_nonneg _ (by omega)) (Int.emod_lt_of_pos _ ht)
  · walk_at "r"
    exact q _ _ (hs.wr (Int.emod_nonneg _ (by decide)) (Int.emod_lt_of_pos _ (by decide))) (st _) (Int.emod_nonneg _ (by omega)) (Int.emod_lt_of_pos _ ht)
abbrev s_law_one : Stmt := topS 43
theorem sc_law_one : FnScope ["_law_source", "_law_things"] ["_law_source", "_law_things"] (defScope s_law_one) := ⟨rfl, rfl, rfl, by decide +kernel, rfl, by decide +kernel, by decide +kernel⟩
def Ok_law_one (P : Program) (w : World) (K : PySem.W.Frag) (mg : Str → Option Value) (base : Heap) : Prop := ∃ fA fd, Fn P w K mg base (L2.CX P w) 2 "_law_one" s_law_one fA fd ["_law_source", "_law_things"] (sp_law_one K mg)
theorem okx_law_one (Z : Zs K mg) {fA : Addr} {fd : FuncData} (F : Fun K "_law_one" "_law_one" s_law_one fA fd) (m : mg "_law_one" = some (.ref fA)) (C_law_take : Ok_law_take P w K mg base) : Fn P w K mg base (L2.CX P w) 2 "_law_one" s_law_one fA fd ["_law_source", "_law_things"] (sp_law_one K mg) := by
  obtain ⟨_, _, C_law_take⟩ := C_law_take
  refine ⟨F.okX sc_law_one (fun vs H Q E h => h.1) (fun cdv A outer s H vs Q E hr h => ?_), m, F.kp, F.binds fun _ _ _ _ _ _ us hl => match us, hl with | [_, _], _ => rfl, F⟩
  have hu64 := hr.units
  obtain ⟨hlen, h⟩ := h
  refine ⟨_, (pss_one (ps_ret (pe_ix (i_list K rfl) (pv 1) (pe_call C_law_take.G (hr.mono (by decide)) rfl C_law_take.m C_law_take.kp C_law_take.b .nil passL (pa_cons (pv 0) (pa_cons (pe_callB (c_len K rfl) (by rfl) Z.z_len (by decide +kernel) (pa_cons (pv 1) pa_nil)) pa_nil))) (fun _ _ => rfl)))), ?_⟩
  obtain ⟨F0, p, a, xs, rfl, hs, hn, hn0, hn1, q⟩ := h
  have ha := hs.1.seq hn
  walk_at "r"
  refine ⟨rfl, F0, p, _, rfl, hs, by omega, by omega, fun r H1 s1 st1 r0 r1 => ?_⟩
  walk_at "r"
  have hl : r.toNat < xs.length := by omega
  exact s_ixL (s1.1.seq hn) (at_of (j := r.toNat) (by omega) (List.getElem?_eq_getElem hl)) (q _ _ s1 st1 (List.getElem_mem hl))
abbrev s_law_line : Stmt := topS 44
theorem sc_law_line : FnScope ["_law_source", "_law_most", "_law_x0", "_law_y0", "_law_wide", "_law_high", "_law_planes"] ["_law_source", "_law_most"] (defScope s_law_line) := ⟨rfl, rfl, rfl, by decide +kernel, rfl, by decide +kernel, by decide +kernel⟩
def Ok_law_line (P : Program) (w : World) (K : PySem.W.Frag) (mg : Str → Option Value) (base : Heap) : Prop := ∃ fA fd, Fn P w K mg base (L2.CX P w) 3 "_law_line" s_law_line fA fd ["_law_source", "_law_most"] (sp_law_line K mg)
theorem okx_law_line (Z : Zs K mg) {fA : Addr} {fd : FuncData} (F : Fun K "_law_line" "_law_line" s_law_line fA fd) (m : mg "_law_line" = some (.ref fA)) (C_law_take : Ok_law_take P w K mg base) (C_law_one : Ok_law_one P w K mg base) : Fn P w K mg base (L2.CX P w) 3 "_law_line" s_law_line fA fd ["_law_source", "_law_most"] (sp_law_line K mg) := by
  obtain ⟨_, _, C_law_take⟩ := C_law_take
  obtain ⟨_, _, C_law_one⟩ := C_law_one
  refine ⟨F.okX sc_law_line (fun vs H Q E h => h.1) (fun cdv A outer s H vs Q E hr h => ?_), m, F.kp, F.binds fun _ _ _ _ _ _ us hl => match us, hl with | [_, _], _ => rfl, F⟩
  have hu64 := hr.units
  obtain ⟨hlen, h⟩ := h
  refine ⟨_, (pss_cons (ps_par (i := 2) (j := 3) (by rfl) sc_law_line.nd rfl rfl (by decide) rfl rfl (pa_cons (pe_op op_sub (pe_call C_law_take.G (hr.mono (by decide)) rfl C_law_take.m C_law_take.kp C_law_take.b .nil passL (pa_cons (pv 0) (pa_cons pe_int pa_nil))) pe_int) (pa_cons (pe_op op_sub (pe_call C_law_take.G (hr.mono (by decide)) rfl C_law_take.m C_law_take.kp C_law_take.b .nil passL (pa_cons (pv 0) (pa_cons pe_int pa_nil))) pe_int) pa_nil)) (by rfl))
    (pss_cons (ps_asg (pe_call C_law_one.G (hr.mono (by decide)) rfl C_law_one.m C_law_one.kp C_law_one.b .nil passL (pa_cons (pv 0) (pa_cons (pe_lst (pa_cons (pe_tup (pa_cons pe_int (pa_cons pe_int pa_nil))) (pa_cons (pe_tup (pa_cons pe_int (pa_cons pe_int pa_nil))) (pa_cons (pe_tup (pa_cons pe_int (pa_cons pe_int pa_nil))) (pa_cons (pe_tup (pa_cons pe_int (pa_cons pe_int pa_nil))) (pa_cons (pe_tup (pa_cons pe_int (pa_cons pe_int pa_nil))) (pa_cons (pe_tup (pa_cons pe_int (pa_cons pe_int pa_nil))) (pa_cons (pe_tup (pa_cons pe_int (pa_cons pe_int pa_nil))) pa_nil)))))))) pa_nil))) (pg_tup rfl (pgs_cons (pg_name (i := 4) sc_law_line.nd rfl (Or.inl rfl)) (pgs_cons (pg_name (i := 5) sc_law_line.nd rfl (Or.inl rfl)) pgs_nil))))
    (pss_cons (ps_set (i := 6) sc_law_line.nd rfl (Or.inl rfl) (pe_op op_add pe_int (pe_call C_law_take.G (hr.mono (by decide)) rfl C_law_take.m C_law_take.kp C_law_take.b .nil passL (pa_cons (pv 0) (pa_cons (pe_callB (c_max2 rfl) (by rfl) Z.z_max (by decide +kernel) (pa_cons pe_int (pa_cons (pe_callB (c_min2 rfl) (by rfl) Z.z_min (by decide +kernel) (pa_cons pe_int (pa_cons (pe_op op_fdiv (pv 1) (pe_op op_mul (pv 4) (pv 5))) pa_nil))) pa_nil))) pa_nil)))))
    (pss_one (ps_ret (pe_tup (pa_cons (pe_tup (pa_cons (pv 2) (pa_cons (pe_op op_add (pv 2) (pv 4)) (pa_cons (pv 3) (pa_cons (pe_op op_add (pv 3) (pv 5)) pa_nil))))) (pa_cons (pv 6) pa_nil)))))))), ?_⟩
  obtain ⟨F, p, rfl, hs, q⟩ := h
  walk_at "r"
  refine ⟨rfl, F, p, 7, rfl, hs, by decide, by decide, fun a1 H1 s1 t1 _ _ => ?_⟩
  walk_at "r"
  refine ⟨rfl, F, p, 7, rfl, s1, by decide, by decide, fun a2 H2 s2 t2 _ _ => ?_⟩
  walk_at "r"
  have T2 : Stp (S1 p) F H F H2 := t1.trans t2
  refine ⟨sz (by simp), fun w0 hw0 => ?_⟩
  obtain ⟨G0, sa0, ta0, ff0, e0⟩ := srcNew (o := .tup [.int 1, .int 1]) s2 T2 hw0
  generalize upd H2 w0 (.tup [.int 1, .int 1]) = I0 at sa0 ta0 ⊢
  walk_at "r"
  refine ⟨sz (by simp), fun w1 hw1 => ?_⟩
  obtain ⟨G1, sa1, ta1, ff1, e1⟩ := srcNew (o := .tup [.int 2, .int 1]) sa0 ta0 hw1
  generalize upd I0 w1 (.tup [.int 2, .int 1]) = I1 at sa1 ta1 ⊢
  walk_at "r"
  refine ⟨sz (by simp), fun w2 hw2 => ?_⟩
  obtain ⟨G2, sa2, ta2, ff2, e2⟩ := srcNew (o := .tup [.int 1, .int 2]) sa1 ta1 hw2
  generalize upd I1 w2 (.tup [.int 1, .int 2]) = I2 at sa2 ta2 ⊢
  walk_at "r"
  refine ⟨sz (by simp), fun w3 hw3 => ?_⟩
  obtain ⟨G3, sa3, ta3, ff3, e3⟩ := srcNew (o := .tup [.int 3, .int 1]) sa2 ta2 hw3
  generalize upd I2 w3 (.tup [.int 3, .int 1]) = I3 at sa3 ta3 ⊢
  walk_at "r"
  refine ⟨sz (by simp), fun w4 hw4 => ?_⟩
  obtain ⟨G4, sa4, ta4, ff4, e4⟩ := srcNew (o := .tup [.int 2, .int 2]) sa3 ta3 hw4
  generalize upd I3 w4 (.tup [.int 2, .int 2]) = I4 at sa4 ta4 ⊢
  walk_at "r"
  refine ⟨sz (by simp), fun w5 hw5 => ?_⟩
  obtain ⟨G5, sa5, ta5, ff5, e5⟩ := srcNew (o := .tup [.int 1, .int 3]) sa4 ta4 hw5
  generalize upd I4 w5 (.tup [.int 1, .int 3]) = I5 at sa5 ta5 ⊢
  walk_at "r"
  refine ⟨sz (by simp), fun w6 hw6 => ?_⟩
  obtain ⟨G6, sa6, ta6, ff6, e6⟩ := srcNew (o := .tup [.int 4, .int 1]) sa5 ta5 hw6
  generalize upd I5 w6 (.tup [.int 4, .int 1]) = I6 at sa6 ta6 ⊢
  walk_at "r"
  refine ⟨sz (by simp), fun lw hlw => ?_⟩
  obtain ⟨G7, sa7, ta7, ff7, e7⟩ := srcNew (o := .lst [.ref w0, .ref w1, .ref w2, .ref w3, .ref w4, .ref w5, .ref w6]) sa6 ta6 hlw
  generalize upd I6 lw (.lst [.ref w0, .ref w1, .ref w2, .ref w3, .ref w4, .ref w5, .ref w6]) = I7 at sa7 ta7 ⊢
  walk_at "r"
  refine ⟨rfl, G7, p, lw, _, rfl, sa7, .of e7, by simp, by simp, fun r H3 s3 t3 hr => ?_⟩
  have T3 := ta7.trans t3
  obtain ⟨rq, w', h', rfl, er, hw0, hh0, hwh⟩ : ∃ (rq : Addr) (w' h' : Nat), r = .ref rq ∧ G7 rq = some (.tup [.int w', .int h']) ∧ 0 < w' ∧ 0 < h' ∧ w' * h' ≤ 4 := by
    simp only [List.mem_cons, List.not_mem_nil, or_false] at hr
    rcases hr with rfl | rfl | rfl | rfl | rfl | rfl | rfl
    · exact ⟨_, 1, 1, rfl, (ff7 _ _ (ff6 _ _ (ff5 _ _ (ff4 _ _ (ff3 _ _ (ff2 _ _ (ff1 _ _ e0))))))), by decide, by decide, by decide⟩
    · exact ⟨_, 2, 1, rfl, (ff7 _ _ (ff6 _ _ (ff5 _ _ (ff4 _ _ (ff3 _ _ (ff2 _ _ e1)))))), by decide, by decide, by decide⟩
    · exact ⟨_, 1, 2, rfl, (ff7 _ _ (ff6 _ _ (ff5 _ _ (ff4 _ _ (ff3 _ _ e2))))), by decide, by decide, by decide⟩
    · exact ⟨_, 3, 1, rfl, (ff7 _ _ (ff6 _ _ (ff5 _ _ (ff4 _ _ e3)))), by decide, by decide, by decide⟩
    · exact ⟨_, 2, 2, rfl, (ff7 _ _ (ff6 _ _ (ff5 _ _ e4))), by decide, by decide, by decide⟩
    · exact ⟨_, 1, 3, rfl, (ff7 _ _ (ff6 _ _ e5)), by decide, by decide, by decide⟩
    · exact ⟨_, 4, 1, rfl, (ff7 _ _ e6), by decide, by decide, by decide⟩
  refine s_gtup (.of (s3.1 _ _ er)) rfl ?_
  have hw4 : w' ≤ 4 := Nat.le_trans (Nat.le_mul_of_pos_right w' hh0) hwh
  have hh4 : h' ≤ 4 := Nat.le_trans (Nat.le_mul_of_pos_left h' hw0) hwh
  have hk0 : 0 < w' * h' := Nat.mul_pos hw0 hh0
  have ewh : (w' : Int) * (h' : Int) = ((w' * h' : Nat) : Int) := by simp
  walk_at "r"
  rw [ewh]
  obtain ⟨k, hk⟩ : ∃ k, w' * h' = k := ⟨_, rfl⟩
  rw [hk]
  have hk4 : k = 1 ∨ k = 2 ∨ k = 3 ∨ k = 4 := by omega
  obtain ⟨t, et, t0, t5, t12⟩ : ∃ t : Int, (if (if 12 / (k : Int) < 5 then 12 / (k : Int) else 5) > 1 then if 12 / (k : Int) < 5 then 12 / (k : Int) else 5 else 1) = t ∧ 0 < t ∧ t ≤ 5 ∧ t * (k : Int) ≤ 12 := by
    rcases hk4 with rfl | rfl | rfl | rfl <;> exact ⟨_, rfl, by decide, by decide, by decide⟩
  rw [et]
  refine ⟨rfl, G7, p, t, rfl, s3, t0, by omega, fun a3 H4 s4 t4 a30 a31 => ?_⟩
  have T4 := T3.trans t4
  have hpl : (1 + a3) * (k : Int) ≤ 12 := Int.le_trans (Int.mul_le_mul_of_nonneg_right (by omega) (by omega)) t12
  walk_at "r"
  refine ⟨sz (by simp), fun q1 hq1 => ?_⟩
  obtain ⟨G8, s8, T8, ff8, e8⟩ := srcNew (o := .tup [.int (a1 - 3), .int (a1 - 3 + (w' : Int)), .int (a2 - 3), .int (a2 - 3 + (h' : Int))]) s4 T4 hq1
  generalize upd H4 q1 (.tup [.int (a1 - 3), .int (a1 - 3 + (w' : Int)), .int (a2 - 3), .int (a2 - 3 + (h' : Int))]) = H8 at s8 T8 ⊢
  walk_at "r"
  refine ⟨sz (by simp), fun q2 hq2 => ?_⟩
  obtain ⟨G9, s9, T9, ff9, e9⟩ := srcNew (o := .tup [.ref q1, .int (1 + a3)]) s8 T8 hq2
  exact q q2 q1 G9 _ (a1 - 3) (a2 - 3) w' h' (1 + a3) s9 T9 e9 (ff9 _ _ e8) ⟨hw0, hh0, hwh, by omega, by rw [hk]; exact hpl⟩
abbrev s_law_row : Stmt := topS 45
theorem sc_law_row : FnScope ["_law_source", "_law_rect", "_law_planes", "_law_model", "_law_ranger", "_law_letters", "_law_liked", "_law_turn", "_law_m", "_law_letter"] ["_law_source", "_law_rect", "_law_planes"] (defScope s_law_row) := ⟨rfl, rfl, rfl, by decide +kernel, rfl, by decide +kernel, by decide +kernel⟩
def Ok_law_row (P : Program) (w : World) (K : PySem.W.Frag) (mg : Str → Option Value) (base : Heap) : Prop := ∃ fA fd, Fn P w K mg base (L2.CX P w) 5 "_law_row" s_law_row fA fd ["_law_source", "_law_rect", "_law_planes"] (sp_law_row K mg)
theorem okx_law_row (Z : Zs K mg) {fA : Addr} {fd : FuncData} (F : Fun K "_law_row" "_law_row" s_law_row fA fd) (m : mg "_law_row" = some (.ref fA)) (C_Ranger_end : Ok_Ranger_end P w K mg base) (C_LineModel_take : Ok_LineModel_take P w K mg base) (C_Ranger_take : Ok_Ranger_take P w K mg base) (C_LineModel_wanted_counts : Ok_LineModel_wanted_counts P w K mg base) (C_law_take : Ok_law_take P w K mg base) (C_LineModel_wanted : Ok_LineModel_wanted P w K mg base) (C_Ranger___init__ : Ok_Ranger___init__ P w K mg base) (C_LineModel___init__ : Ok_LineModel___init__ P w K mg base) : Fn P w K mg base (L2.CX P w) 5 "_law_row" s_law_row fA fd ["_law_source", "_law_rect", "_law_planes"] (sp_law_row K mg) := by
  obtain ⟨_, _, C_Ranger_end, M_Ranger_end⟩ := C_Ranger_end
  obtain ⟨_, _, C_LineModel_take, M_LineModel_take⟩ := C_LineModel_take
  obtain ⟨_, _, C_Ranger_take, M_Ranger_take⟩ := C_Ranger_take
  obtain ⟨_, _, C_LineModel_wanted_counts, M_LineModel_wanted_counts⟩ := C_LineModel_wanted_counts
  obtain ⟨_, _, C_law_take⟩ := C_law_take
  obtain ⟨_, _, C_LineModel_wanted, M_LineModel_wanted⟩ := C_LineModel_wanted
  obtain ⟨_, _, C_Ranger___init__, M_Ranger___init__⟩ := C_Ranger___init__
  obtain ⟨_, _, C_LineModel___init__, M_LineModel___init__⟩ := C_LineModel___init__
  refine ⟨F.okX sc_law_row (fun vs H Q E h => h.1) (fun cdv A outer s H vs Q E hr h => ?_), m, F.kp, F.binds fun _ _ _ _ _ _ us hl => match us, hl with | [_, _, _], _ => rfl, F⟩
  have hu64 := hr.units
  obtain ⟨hlen, h⟩ := h
  refine ⟨_, (pss_cons (ps_par3 (i := 3) (j := 4) (l := 5) (by rfl) sc_law_row.nd rfl rfl rfl (by decide) (by decide) (by decide) rfl rfl rfl (pa_cons (pe_make M_LineModel___init__ C_LineModel___init__.G (hr.mono (by decide)) rfl Z.o_LineModel.g C_LineModel___init__.b .nil passL (pa_cons (pv 1) (pa_cons (pv 2) pa_nil))) (pa_cons (pe_make0 M_Ranger___init__ C_Ranger___init__.G (hr.mono (by decide)) rfl Z.o_Ranger.g C_Ranger___init__.b .nil passL) (pa_cons (pe_lst pa_nil) pa_nil))) (by rfl))
    (pss_cons (ps_set (i := 6) sc_law_row.nd rfl (Or.inl rfl) (pe_call C_law_take.G (hr.mono (by decide)) rfl C_law_take.m C_law_take.kp C_law_take.b .nil passL (pa_cons (pv 0) (pa_cons pe_int pa_nil))))
    (pss_cons (ps_for (passes_of rfl) rfl (pi_range1 rfl Z.z_range (pa_cons pe_int pa_nil)) (pg_name (i := 7) sc_law_row.nd rfl (Or.inl rfl))
      (pss_cons (ps_if (pt_cmpR op_isN (pe_meth0 (pv 3) Z.o_LineModel.cl M_LineModel_wanted C_LineModel_wanted.G (hr.mono (by decide)) C_LineModel_wanted.b .nil passL) pe_non (nomark _))
      (pss_one (ps_ret (pe_tup (pa_cons (pv 5) (pa_cons (pe_meth0 (pv 4) Z.o_Ranger.cl M_Ranger_end C_Ranger_end.G (hr.mono (by decide)) C_Ranger_end.b .nil passL) pa_nil)))))
      pss_nil)
    (pss_cons (ps_set (i := 8) sc_law_row.nd rfl (Or.inl rfl) (pe_ix (i_tup K rfl) (pe_meth0 (pv 3) Z.o_LineModel.cl M_LineModel_wanted C_LineModel_wanted.G (hr.mono (by decide)) C_LineModel_wanted.b .nil passL) pe_int (fun _ _ => rfl)))
    (pss_cons (ps_set (i := 9) sc_law_row.nd rfl (Or.inl rfl) (pe_ifExp (PW.pt (pw_and (pt_cmpR op_lt (pv 6) pe_int (nomark _)) (pw_and1 (pt_cmpR op_gt (pe_call C_law_take.G (hr.mono (by decide)) rfl C_law_take.m C_law_take.kp C_law_take.b .nil passL (pa_cons (pv 0) (pa_cons pe_int pa_nil))) pe_int (nomark _))))) (pe_callB (c_min2 rfl) (by rfl) Z.z_min (by decide +kernel) (pa_cons (pv 6) (pa_cons (pe_op op_sub (pv 8) pe_int) pa_nil))) (pe_call C_law_take.G (hr.mono (by decide)) rfl C_law_take.m C_law_take.kp C_law_take.b .nil passL (pa_cons (pv 0) (pa_cons (pv 8) pa_nil)))))
    (pss_cons (ps_expr (pe_meth (pv 4) Z.o_Ranger.cl M_Ranger_take C_Ranger_take.G (hr.mono (by decide)) C_Ranger_take.b .nil passL (pa_cons (pe_meth0 (pv 3) Z.o_LineModel.cl M_LineModel_wanted_counts C_LineModel_wanted_counts.G (hr.mono (by decide)) C_LineModel_wanted_counts.b .nil passL) (pa_cons (pv 9) pa_nil))))
    (pss_cons (ps_expr (pe_meth (pv 3) Z.o_LineModel.cl M_LineModel_take C_LineModel_take.G (hr.mono (by decide)) C_LineModel_take.b .nil passL (pa_cons (pv 9) pa_nil)))
    (pss_one (ps_expr (pe_bm PySem.F.plainAttrs_list PySem.F.slot_list_append PySem.F.type_list_append mt_append (pv 5) (pa_cons (pv 9) pa_nil))))))))))
    (pss_one (ps_ret (pe_tup (pa_cons (pv 5) (pa_cons (pe_meth0 (pv 4) Z.o_Ranger.cl M_Ranger_end C_Ranger_end.G (hr.mono (by decide)) C_Ranger_end.b .nil passL) pa_nil)))))))), ?_⟩
  obtain ⟨F, p, r, x0, y0, w, h, pl, rfl, hs, hr, lk, q⟩ := h
  obtain ⟨lw0, lh0, lwh, lp0, lp1⟩ := lk
  have hwh0 : 0 < w * h := Nat.mul_pos lw0 lh0
  have hp20 : pl ≤ 20 := by
    have : pl * 1 ≤ pl * ((w * h : Nat) : Int) := Int.mul_le_mul_of_nonneg_left (by omega) (by omega)
    omega
  have hok := initM_ok (x0 := x0) (y0 := y0) (pl := pl) lw0 lh0 (by omega)
  have hleft := initM_left (x0 := x0) (y0 := y0) lw0 lh0 lp0
  obtain ⟨psx, psy, hpp, _⟩ := hs.2.2
  walk_at "r"
  intro xa xd hxa hxd ndx
  have npx : p ≠ xa := ne_of_none hpp hxa
  have npd : p ≠ xd := ne_of_none hpp hxd
  have hxa' : upd H xd (.own xa) xa = none := by rw [upd_ne ndx.symm]; exact hxa
  have stm : Stp (S1 p) F H F (upd (upd H xd (.own xa)) xa (.ins (exA mg "LineModel") xd [])) := (Stp.cell hs.1 hxd).trans (Stp.cell (Stp.cell (S := S1 p) hs.1 hxd).fh hxa')
  have exm : upd (upd H xd (.own xa)) xa (.ins (exA mg "LineModel") xd []) xa = some (.ins (exA mg "LineModel") xd []) := upd_same
  have srm : Src F (upd (upd H xd (.own xa)) xa (.ins (exA mg "LineModel") xd [])) p := (hs.upd npd.symm (hs.1.free hxd)).upd npx.symm (hs.1.free hxa)
  generalize upd (upd H xd (.own xa)) xa (.ins (exA mg "LineModel") xd []) = Hm at stm exm srm ⊢
  refine ⟨rfl, F, xa, xd, r, x0, y0, w, h, pl, rfl, stm.fh, hr, exm, hs.1.free hxa, lw0, lh0, by omega, lp0, hp20, fun F1 H1 A hA st1 lm cc => ⟨rfl, ?_⟩⟩
  have st01 : Stp (S1 p) F H F1 H1 := stm.transN st1 fun c hc => .inr (by rw [hc]; exact hxa)
  have sr1 : Src F1 H1 p := srm.step st1 npx
  have cn : ∀ c ∈ A.cells, H c = none := fun c hc => by
    rcases cc c hc with e | e
    · rw [e]; exact hxa
    · exact none_of' stm e
  subst hA
  have npc : p ∉ A.cells := fun hc => by
    have := cn p hc
    rw [hpp] at this; cases this
  clear stm st1 srm exm cc hxa' npx
  walk_at "r"
  intro rg dr hrg hdr ndr
  refine ⟨rfl, rg, dr, rfl, upd_same, ⟨rfl, ?_⟩⟩
  obtain ⟨psx1, psy1, hpp1, _⟩ := sr1.2.2
  have npg : p ≠ rg := ne_of_none hpp1 hrg
  have npr : p ≠ dr := ne_of_none hpp1 hdr
  have hrg' : upd H1 dr (.own rg) rg = none := by rw [upd_ne ndr.symm]; exact hrg
  have st2 : Stp (S1 p) F H F1 (upd (upd H1 dr (.own rg)) rg (.ins (exA mg "Ranger") dr [])) := st01.trans ((Stp.cell sr1.1 hdr).trans (Stp.cell (Stp.cell (S := S1 p) sr1.1 hdr).fh hrg'))
  have sr2 : Src F1 (upd (upd H1 dr (.own rg)) rg (.ins (exA mg "Ranger") dr [])) p := (sr1.upd npr.symm (sr1.1.free hdr)).upd npg.symm (sr1.1.free hrg)
  have nrg : rg ∉ A.cells := lm.not_new hrg
  have lm2 : LMx mg F1 (upd (upd H1 dr (.own rg)) rg (.ins (exA mg "Ranger") dr [])) A (iniM x0 y0 w h pl) := (lm.beside (sr1.1.free hdr) (lm.not_new hdr)).beside (sr1.1.free hrg) nrg
  have hHrg : H rg = none := none_of' st01 hrg
  have st3 : Stp (S1 p) F H F1 (upd (upd (upd H1 dr (.own rg)) rg (.ins (exA mg "Ranger") dr [])) rg (.ins (exA mg "Ranger") dr [("_node", .ref (exA mg "ROOT"))])) := st2.transN (Stp.wr (S := fun c => c = rg) sr2.1 rfl (sr1.1.free hrg)) fun c hc => .inr (by rw [hc]; exact hHrg)
  have sr3 := sr2.upd (o := .ins (exA mg "Ranger") dr [("_node", .ref (exA mg "ROOT"))]) npg.symm (sr1.1.free hrg)
  have lm3 := lm2.beside (o := .ins (exA mg "Ranger") dr [("_node", .ref (exA mg "ROOT"))]) (sr1.1.free hrg) nrg
  have erg : upd (upd (upd H1 dr (.own rg)) rg (.ins (exA mg "Ranger") dr [])) rg (.ins (exA mg "Ranger") dr [("_node", .ref (exA mg "ROOT"))]) rg = some (.ins (exA mg "Ranger") dr [("_node", .ref (exA mg "ROOT"))]) := upd_same
  generalize upd (upd (upd H1 dr (.own rg)) rg (.ins (exA mg "Ranger") dr [])) rg (.ins (exA mg "Ranger") dr [("_node", .ref (exA mg "ROOT"))]) = H3 at st3 sr3 lm3 erg ⊢
  have nFr : F1 rg = none := sr1.1.free hrg
  clear st2 sr2 lm2 hrg' hrg hdr
  walk_at "r"
  refine ⟨sz (by simp), fun la hla => ?_⟩
  obtain ⟨psx3, psy3, hpp3, _⟩ := sr3.2.2
  have rz0 : RowZ K mg F H F1 (upd H3 la (.lst (([] : List Nat).map fun (j : Nat) => V.int (j : Int)))) p rg dr la A (iniM x0 y0 w h pl) rootN [] :=
    ⟨sr3.upd (ne_of_none hpp3 hla).symm (sr3.1.free hla), st3.trans (Stp.cell sr3.1 hla), lm3.beside (sr3.1.free hla) (lm3.not_new hla), npc, lm3.not_new hla, nrg, cn, ⟨exA mg "ROOT", by rw [upd_ne (ne_of_none erg hla)]; exact erg, Z.t_ROOT.2 F1⟩, upd_same, sr3.1.free hla, nFr, none_of' st3 hla, hHrg, (ne_of_none hpp3 hla).symm, npg.symm, ne_of_none erg hla⟩
  generalize eX : upd H3 la (.lst []) = H4
  replace rz0 : RowZ K mg F H F1 H4 p rg dr la A (iniM x0 y0 w h pl) rootN [] := by rw [← eX]; exact rz0
  clear eX st3 sr3 lm3 st01 sr1 lm
  walk_at "r"
  refine ⟨rfl, F1, p, 4, rfl, rz0.s, by decide, by decide, fun li H5 s5 t5 li0 li1 => ?_⟩
  replace rz0 := rz0.draw s5 t5
  walk_at "r"
  refine ⟨_, rfl, by decide, by decide, ?_⟩
  refine forR (fun i σ H' => ∃ (js : List Nat) (m : Mdl) (n : Nd) (B : LA) (Fc : Hp) (v7 v8 v9 : Option V), σ = [some (.ref p), some (.ref r), some (.int pl), some (.ref B.a), some (.ref rg), some (.ref la), some (.int li), v7, v8, v9] ∧ Path AnyJ (iniM x0 y0 w h pl) rootN js m n ∧ RowZ K mg F H Fc H' p rg dr la B m n js ∧ B.a = A.a ∧ js.length = i)
    ⟨[], iniM x0 y0 w h pl, rootN, A, F1, _, _, _, rfl, .nil, rz0, rfl, rfl⟩ ?_ ?_
  · rintro i σ H6 hi ⟨js, m, n, B, Fc, v7, v8, v9, rfl, hpath, rz, hBa, hjl⟩
    obtain ⟨_, mok, nok, hll, hns, _⟩ := path_run hok ⟨by decide, by decide, by decide, by decide, by decide⟩ hpath
    have hs16 : n.s ≤ 16 + 6 * js.length := hns
    have hjl2 : js.length ≤ 12 := by omega
    walk_at "r"
    refine ⟨B.a, B.dx, _, rfl, rz.z.o, rfl, ?_⟩
    by_cases hpl : m.plane < 0
    · refine ⟨rfl, Fc, B, m, rfl, rz.z, mok, .inl ⟨hpl, ?_⟩⟩
      walk_at "r"
      refine ⟨rfl, ?_⟩
      walk_at "r"
      refine ifd (fun _ => ?_) (fun h => absurd rfl h)
      walk_at "r"
      obtain ⟨nq, e1, e2⟩ := rz.kr
      refine ⟨rg, dr, _, rfl, e1, rfl, ?_⟩
      refine ⟨rfl, rg, n, rfl, ⟨dr, nq, e1, seqT' rz.z.fh e2⟩, nok, by omega, fun pa H7 s7 npa epa => ?_⟩
      have rz7 := rz.same s7
      have hHpa : H pa = none := none_of' rz.st npa
      have fpa : Fc pa = none := rz.z.fh.free npa
      have st8 := rz7.st.freeze hHpa epa fpa
      have nlp : la ≠ pa := ne_of_none rz.kl npa
      have fla : (upd Fc pa (.lst ((endOf n.l n.w n.s).map V.int))) la = none := by rw [upd_ne nlp]; exact rz.fl
      have st9 := st8.freeze rz.hl rz7.kl fla
      have epa9 : (upd (upd Fc pa (.lst ((endOf n.l n.w n.s).map V.int))) la (.lst (js.map fun (j : Nat) => V.int (j : Int)))) pa = some (.lst ((endOf n.l n.w n.s).map V.int)) := by rw [upd_ne nlp.symm, upd_same]
      have ela9 : (upd (upd Fc pa (.lst ((endOf n.l n.w n.s).map V.int))) la (.lst (js.map fun (j : Nat) => V.int (j : Int)))) la = some (.lst (js.map fun (j : Nat) => V.int (j : Int))) := upd_same
      have npp : p ≠ pa := by
        obtain ⟨_, _, ep, _⟩ := rz.s.2.2
        exact ne_of_none ep npa
      have s9 : Src (upd (upd Fc pa (.lst ((endOf n.l n.w n.s).map V.int))) la (.lst (js.map fun (j : Nat) => V.int (j : Int)))) H7 p := by
        obtain ⟨a, b, x, y, ep, w'⟩ := rz7.s
        exact ⟨st9.fh, by rw [upd_ne rz.d1.symm, upd_ne npp]; exact b, x, y, ep, w'⟩
      generalize upd (upd Fc pa (.lst ((endOf n.l n.w n.s).map V.int))) la (.lst (js.map fun (j : Nat) => V.int (j : Int))) = F9 at st9 epa9 ela9 s9
      walk_at "r"
      refine ⟨sz (by simp), fun q2 hq2 => ?_⟩
      obtain ⟨F10, s10, T10, ff10, e10⟩ := srcNew (o := .tup [.ref la, .ref pa]) s9 st9 hq2
      exact q q2 la pa F10 _ js m n s10 T10 e10 (ff10 _ _ ela9) (ff10 _ _ epa9) hpath hpl
    have hpl : 0 ≤ m.plane := by omega
    obtain ⟨_, _, hcl, hco⟩ := mok.tab hpl
    have hm23 : manyM m = 2 ∨ manyM m = 3 := by unfold manyM; split <;> simp
    refine ⟨rfl, Fc, B, m, rfl, rz.z, mok, .inr ⟨hpl, fun p2 c2 H7 s7 _ _ _ => ?_⟩⟩
    replace rz := rz.same s7
    walk_at "r"
    refine ⟨rfl, ?_⟩
    walk_at "r"
    refine ifd (fun h => by cases h) (fun _ => ?_)
    walk_at "r"
    refine ⟨B.a, B.dx, _, rfl, rz.z.o, rfl, ?_⟩
    refine ⟨rfl, Fc, B, m, rfl, rz.z, mok, .inr ⟨hpl, fun p3 c3 H8 s8 _ e8 _ => ?_⟩⟩
    replace rz := rz.same s8
    walk_at "r"
    refine ifd (fun h3 => ?_) (fun h3 => ?_)
    · walk_at "r"
      refine ⟨rfl, Fc, p, 4, rfl, rz.s, by decide, by decide, fun t H85 s85 t85 _ _ => ?_⟩
      replace rz := rz.draw s85 t85
      walk_at "r"
      refine ifd (fun h4 => ?_) (fun h4 => ?_)
      · walk_at "r"
        obtain ⟨x, ex, hx0, hx1⟩ : ∃ x, (if manyM m - 1 < li then manyM m - 1 else li) = x ∧ 0 ≤ x ∧ x < manyM m := ⟨_, rfl, by split <;> omega, by split <;> omega⟩
        rw [ex]
        obtain ⟨j, rfl⟩ : ∃ j : Nat, x = (j : Int) := ⟨x.toNat, by omega⟩
        have hj : j < (countsM m).length := by omega
        obtain ⟨nq, e1, e2⟩ := rz.kr
        walk_at "r"
        refine ⟨rg, dr, _, rfl, e1, rfl, ?_⟩
        walk_at "r"
        refine ⟨B.a, B.dx, _, rfl, rz.z.o, rfl, ?_⟩
        refine ⟨rfl, Fc, B, m, rfl, rz.z, mok, .inr ⟨hpl, fun cp H10 s10 _ ecp => ?_⟩⟩
        walk_at "r"
        refine ⟨rfl, rg, cp, dr, nq, n, countsM m, j, rfl, s10 _ _ e1, seqT' (rz.same s10).z.fh e2, .of ecp, hj, hco, nok, fun q1 H11 s11 nq1 eq1 => ?_⟩
        have rz11 := (rz.same s10).take (n2 := childN n (countsM m) j) s11 nq1 eq1
        clear e1 e2
        generalize upd H11 rg (.ins (exA mg "Ranger") dr [("_node", .ref q1)]) = H12 at rz11 ⊢
        generalize upd Fc q1 _ = F12 at rz11
        walk_at "r"
        refine ⟨B.a, B.dx, _, rfl, rz11.z.o, rfl, ?_⟩
        walk_at "r"
        refine ⟨rfl, F12, B, m, j, rfl, rz11.z, mok, hpl, hx1, fun F13 H13 B2 st13 z13 hB2 cB2 => ?_⟩
        have rz13 := rz11.step st13 z13 cB2
        walk_at "r"
        refine ⟨.inl ⟨rfl, _, SqL.of rz13.kl⟩, ?_⟩
        walk_at "r"
        refine ⟨la, _, _, rfl, rfl, rz13.kl, Nat.lt_of_lt_of_le (m := 10000) (by rw [List.length_map]; omega) (by decide), ?_⟩
        have ejs : (js.map fun (j : Nat) => V.int (j : Int)) ++ [V.int (j : Int)] = (js ++ [j]).map fun (j : Nat) => V.int (j : Int) := by rw [List.map_append]; rfl
        rw [ejs]
        exact ⟨js ++ [j], stepM m j, childN n (countsM m) j, B2, F13, _, _, _, by rw [hB2]; rfl, .snoc hpath hpl hj trivial, rz13.app j, hB2.trans hBa, by rw [List.length_append, hjl]; rfl⟩
      · walk_at "r"
        refine ⟨rfl, Fc, p, manyM m, rfl, rz.s, by omega, by omega, fun x H9 s9 t9 hx0 hx1 => ?_⟩
        replace rz := rz.draw s9 t9
        obtain ⟨j, rfl⟩ : ∃ j : Nat, x = (j : Int) := ⟨x.toNat, by omega⟩
        have hj : j < (countsM m).length := by omega
        obtain ⟨nq, e1, e2⟩ := rz.kr
        walk_at "r"
        refine ⟨rg, dr, _, rfl, e1, rfl, ?_⟩
        walk_at "r"
        refine ⟨B.a, B.dx, _, rfl, rz.z.o, rfl, ?_⟩
        refine ⟨rfl, Fc, B, m, rfl, rz.z, mok, .inr ⟨hpl, fun cp H10 s10 _ ecp => ?_⟩⟩
        walk_at "r"
        refine ⟨rfl, rg, cp, dr, nq, n, countsM m, j, rfl, s10 _ _ e1, seqT' (rz.same s10).z.fh e2, .of ecp, hj, hco, nok, fun q1 H11 s11 nq1 eq1 => ?_⟩
        have rz11 := (rz.same s10).take (n2 := childN n (countsM m) j) s11 nq1 eq1
        clear e1 e2
        generalize upd H11 rg (.ins (exA mg "Ranger") dr [("_node", .ref q1)]) = H12 at rz11 ⊢
        generalize upd Fc q1 _ = F12 at rz11
        walk_at "r"
        refine ⟨B.a, B.dx, _, rfl, rz11.z.o, rfl, ?_⟩
        walk_at "r"
        refine ⟨rfl, F12, B, m, j, rfl, rz11.z, mok, hpl, hx1, fun F13 H13 B2 st13 z13 hB2 cB2 => ?_⟩
        have rz13 := rz11.step st13 z13 cB2
        walk_at "r"
        refine ⟨.inl ⟨rfl, _, SqL.of rz13.kl⟩, ?_⟩
        walk_at "r"
        refine ⟨la, _, _, rfl, rfl, rz13.kl, Nat.lt_of_lt_of_le (m := 10000) (by rw [List.length_map]; omega) (by decide), ?_⟩
        have ejs : (js.map fun (j : Nat) => V.int (j : Int)) ++ [V.int (j : Int)] = (js ++ [j]).map fun (j : Nat) => V.int (j : Int) := by rw [List.map_append]; rfl
        rw [ejs]
        exact ⟨js ++ [j], stepM m j, childN n (countsM m) j, B2, F13, _, _, _, by rw [hB2]; rfl, .snoc hpath hpl hj trivial, rz13.app j, hB2.trans hBa, by rw [List.length_append, hjl]; rfl⟩
    · walk_at "r"
      refine ⟨rfl, Fc, p, manyM m, rfl, rz.s, by omega, by omega, fun x H9 s9 t9 hx0 hx1 => ?_⟩
      replace rz := rz.draw s9 t9
      obtain ⟨j, rfl⟩ : ∃ j : Nat, x = (j : Int) := ⟨x.toNat, by omega⟩
      have hj : j < (countsM m).length := by omega
      obtain ⟨nq, e1, e2⟩ := rz.kr
      walk_at "r"
      refine ⟨rg, dr, _, rfl, e1, rfl, ?_⟩
      walk_at "r"
      refine ⟨B.a, B.dx, _, rfl, rz.z.o, rfl, ?_⟩
      refine ⟨rfl, Fc, B, m, rfl, rz.z, mok, .inr ⟨hpl, fun cp H10 s10 _ ecp => ?_⟩⟩
      walk_at "r"
      refine ⟨rfl, rg, cp, dr, nq, n, countsM m, j, rfl, s10 _ _ e1, seqT' (rz.same s10).z.fh e2, .of ecp, hj, hco, nok, fun q1 H11 s11 nq1 eq1 => ?_⟩
      have rz11 := (rz.same s10).take (n2 := childN n (countsM m) j) s11 nq1 eq1
      clear e1 e2
      generalize upd H11 rg (.ins (exA mg "Ranger") dr [("_node", .ref q1)]) = H12 at rz11 ⊢
      generalize upd Fc q1 _ = F12 at rz11
      walk_at "r"
      refine ⟨B.a, B.dx, _, rfl, rz11.z.o, rfl, ?_⟩
      walk_at "r"
      refine ⟨rfl, F12, B, m, j, rfl, rz11.z, mok, hpl, hx1, fun F13 H13 B2 st13 z13 hB2 cB2 => ?_⟩
      have rz13 := rz11.step st13 z13 cB2
      walk_at "r"
      refine ⟨.inl ⟨rfl, _, SqL.of rz13.kl⟩, ?_⟩
      walk_at "r"
      refine ⟨la, _, _, rfl, rfl, rz13.kl, Nat.lt_of_lt_of_le (m := 10000) (by rw [List.length_map]; omega) (by decide), ?_⟩
      have ejs : (js.map fun (j : Nat) => V.int (j : Int)) ++ [V.int (j : Int)] = (js ++ [j]).map fun (j : Nat) => V.int (j : Int) := by rw [List.map_append]; rfl
      rw [ejs]
      exact ⟨js ++ [j], stepM m j, childN n (countsM m) j, B2, F13, _, _, _, by rw [hB2]; rfl, .snoc hpath hpl hj trivial, rz13.app j, hB2.trans hBa, by rw [List.length_append, hjl]; rfl⟩
  · rintro σ H6 ⟨js, m, n, B, Fc, v7, v8, v9, rfl, hpath, rz, hBa, hjl⟩
    obtain ⟨_, mok, nok, hll, hns, _⟩ := path_run hok ⟨by decide, by decide, by decide, by decide, by decide⟩ hpath
    have h13 : js.length = 13 := hjl
    omega
abbrev s_law_right : Stmt := topS 46
theorem sc_law_right : FnScope ["_law_source", "_law_rect", "_law_planes", "_law_letters", "_law_piece", "_law_many", "_law_at", "_law_model", "_law_told", "_law_behind", "_law_turn"] ["_law_source"] (defScope s_law_right) := ⟨rfl, rfl, rfl, by decide +kernel, rfl, by decide +kernel, by decide +kernel⟩
def Ok_law_right (P : Program) (w : World) (K : PySem.W.Frag) (mg : Str → Option Value) (base : Heap) : Prop := ∃ fA fd, Fn P w K mg base (L2.CX P w) 6 "_law_right" s_law_right fA fd ["_law_source"] (sp_law_right K mg)
theorem okx_law_right (Z : Zs K mg) {fA : Addr} {fd : FuncData} (F : Fun K "_law_right" "_law_right" s_law_right fA fd) (m : mg "_law_right" = some (.ref fA)) (C_told_letters : Ok_told_letters P w K mg base) (C_LineModel___init__ : Ok_LineModel___init__ P w K mg base) (C_law_take : Ok_law_take P w K mg base) (C_LineModel_wanted : Ok_LineModel_wanted P w K mg base) (C_law_row : Ok_law_row P w K mg base) (C_law_line : Ok_law_line P w K mg base) : Fn P w K mg base (L2.CX P w) 6 "_law_right" s_law_right fA fd ["_law_source"] (sp_law_right K mg) := by
  obtain ⟨_, _, C_told_letters⟩ := C_told_letters
  obtain ⟨_, _, C_LineModel___init__, M_LineModel___init__⟩ := C_LineModel___init__
  obtain ⟨_, _, C_law_take⟩ := C_law_take
  obtain ⟨_, _, C_LineModel_wanted, M_LineModel_wanted⟩ := C_LineModel_wanted
  obtain ⟨_, _, C_law_row⟩ := C_law_row
  obtain ⟨_, _, C_law_line⟩ := C_law_line
  refine ⟨F.okX sc_law_right (fun vs H Q E h => h.1) (fun cdv A outer s H vs Q E hr h => ?_), m, F.kp, F.binds fun _ _ _ _ _ _ us hl => match us, hl with | [_], _ => rfl, F⟩
  have hu64 := hr.units
  obtain ⟨hlen, h⟩ := h
  refine ⟨_, (pss_cons (ps_asg (pe_call C_law_line.G (hr.mono (by decide)) rfl C_law_line.m C_law_line.kp C_law_line.b .nil passL (pa_cons (pv 0) (pa_cons pe_int pa_nil))) (pg_tup rfl (pgs_cons (pg_name (i := 1) sc_law_right.nd rfl (Or.inl rfl)) (pgs_cons (pg_name (i := 2) sc_law_right.nd rfl (Or.inl rfl)) pgs_nil))))
    (pss_cons (ps_asg (pe_call C_law_row.G (hr.mono (by decide)) rfl C_law_row.m C_law_row.kp C_law_row.b .nil passL (pa_cons (pv 0) (pa_cons (pv 1) (pa_cons (pv 2) pa_nil)))) (pg_tup rfl (pgs_cons (pg_name (i := 3) sc_law_right.nd rfl (Or.inl rfl)) (pgs_cons (pg_name (i := 4) sc_law_right.nd rfl (Or.inl rfl)) pgs_nil))))
    (pss_cons (ps_set (i := 5) sc_law_right.nd rfl (Or.inl rfl) pe_int)
    (pss_cons (ps_if (pt_cmpR op_ne (pe_callB (c_len K rfl) (by rfl) Z.z_len (by decide +kernel) (pa_cons (pv 3) pa_nil)) (pe_op op_mul (pe_op op_mul (pv 2) (pe_op op_sub (pe_ix (i_tup K rfl) (pv 1) pe_int (fun _ _ => rfl)) (pe_ix (i_tup K rfl) (pv 1) pe_int (fun _ _ => rfl)))) (pe_op op_sub (pe_ix (i_tup K rfl) (pv 1) pe_int (fun _ _ => rfl)) (pe_ix (i_tup K rfl) (pv 1) pe_int (fun _ _ => rfl)))) (nomark _))
      (pss_one (ps_ret pe_bl))
      pss_nil)
    (pss_cons (ps_for (passes_of rfl) rfl (pi_range1 rfl Z.z_range (pa_cons (pe_op op_add (pe_callB (c_len K rfl) (by rfl) Z.z_len (by decide +kernel) (pa_cons (pv 4) pa_nil)) pe_int) pa_nil)) (pg_name (i := 6) sc_law_right.nd rfl (Or.inl rfl))
      (pss_cons (ps_set (i := 7) sc_law_right.nd rfl (Or.inl rfl) (pe_make M_LineModel___init__ C_LineModel___init__.G (hr.mono (by decide)) rfl Z.o_LineModel.g C_LineModel___init__.b .nil passL (pa_cons (pv 1) (pa_cons (pv 2) pa_nil))))
    (pss_cons (ps_set (i := 8) sc_law_right.nd rfl (Or.inl rfl) (pe_call C_told_letters.G (hr.mono (by decide)) rfl C_told_letters.m C_told_letters.kp C_told_letters.b .nil passL (pa_cons (pe_slice (l_list K rfl) (pv 4) po_none (po_some (pv 6))) (pa_cons (pv 7) pa_nil))))
    (pss_cons (ps_if (PW.pt (pw_or (pt_cmpR (o_neD K rfl hu64) (pv 8) (pe_slice (l_list K rfl) (pv 3) po_none (po_some (pe_callB (c_len K rfl) (by rfl) Z.z_len (by decide +kernel) (pa_cons (pv 8) pa_nil)))) (nomark _)) (pw_or (pt_cmpR op_lt (pe_callB (c_len K rfl) (by rfl) Z.z_len (by decide +kernel) (pa_cons (pv 8) pa_nil)) (pv 5) (nomark _)) (pw_or1 (pt_cmpR op_ne (pe_cmpR op_eq (pe_callB (c_len K rfl) (by rfl) Z.z_len (by decide +kernel) (pa_cons (pv 8) pa_nil)) (pe_callB (c_len K rfl) (by rfl) Z.z_len (by decide +kernel) (pa_cons (pv 3) pa_nil)) (nomark _)) (pe_cmpR op_eq (pv 6) (pe_callB (c_len K rfl) (by rfl) Z.z_len (by decide +kernel) (pa_cons (pv 4) pa_nil)) (nomark _)) (nomark _))))))
      (pss_one (ps_ret pe_bl))
      pss_nil)
    (pss_cons (ps_if (pt_cmpR op_ne (pe_cmpR op_isN (pe_meth0 (pv 7) Z.o_LineModel.cl M_LineModel_wanted C_LineModel_wanted.G (hr.mono (by decide)) C_LineModel_wanted.b .nil passL) pe_non (nomark _)) (pe_cmpR op_eq (pv 6) (pe_callB (c_len K rfl) (by rfl) Z.z_len (by decide +kernel) (pa_cons (pv 4) pa_nil)) (nomark _)) (nomark _))
      (pss_one (ps_ret pe_bl))
      pss_nil)
    (pss_one (ps_set (i := 5) sc_law_right.nd rfl (Or.inl rfl) (pe_callB (c_len K rfl) (by rfl) Z.z_len (by decide +kernel) (pa_cons (pv 8) pa_nil)))))))))
    (pss_cons (ps_setLc (i := 9) (own := [("_law_turn", 10)]) (g := gName 10) (tt := tYes) (by rfl) sc_law_right.nd rfl rfl (sw_true rfl rfl rfl (by decide +kernel)) (pi_range1 rfl Z.z_range (pa_cons (pe_call C_law_take.G (hr.mono (by decide)) rfl C_law_take.m C_law_take.kp C_law_take.b .nil passL (pa_cons (pv 0) (pa_cons pe_int pa_nil))) pa_nil)) (blkOk_by (own := [("_law_turn", 10)]) (N := ["_law_source", "_law_rect", "_law_planes", "_law_letters", "_law_piece", "_law_many", "_law_at", "_law_model", "_law_told", "_law_behind", "_law_turn"]) (sc := defScope s_law_right) (by decide +kernel)) (fun _ _ _ _ _ => (pg_name (i := 10) sc_law_right.nd rfl (Or.inl rfl))) (fun _ _ _ _ _ => pts_nil) (fun _ _ _ _ _ => (pe_call C_law_take.G (hr.mono (by decide)) rfl C_law_take.m C_law_take.kp C_law_take.b .nil passL (pa_cons (pv 0) (pa_cons pe_int pa_nil)))))
    (pss_one (ps_ret (pe_cmpR (o_eqD K rfl hu64) (pe_call C_told_letters.G (hr.mono (by decide)) rfl C_told_letters.m C_told_letters.kp C_told_letters.b .nil passL (pa_cons (pe_op op_cat (pv 4) (pv 9)) (pa_cons (pe_make M_LineModel___init__ C_LineModel___init__.G (hr.mono (by decide)) rfl Z.o_LineModel.g C_LineModel___init__.b .nil passL (pa_cons (pv 1) (pa_cons (pv 2) pa_nil))) pa_nil))) (pv 3) (nomark _)))))))))), ?_⟩
  obtain ⟨F, p, rfl, hs, q⟩ := h
  walk_at "r"
  refine ⟨rfl, F, p, rfl, hs, fun ql r F1 H1 x0 y0 w h pl s1 t1 e1 er lk => ?_⟩
  obtain ⟨lw0, lh0, lwh, lp0, lp1⟩ := id lk
  have hwh0 : 0 < w * h := Nat.mul_pos lw0 lh0
  have hw4 : w ≤ 4 := Nat.le_trans (Nat.le_mul_of_pos_right w lh0) lwh
  have hh4 : h ≤ 4 := Nat.le_trans (Nat.le_mul_of_pos_left h lw0) lwh
  have hp20 : pl ≤ 20 := by
    have : pl * 1 ≤ pl * ((w * h : Nat) : Int) := Int.mul_le_mul_of_nonneg_left (by omega) (by omega)
    omega
  have hok := initM_ok (x0 := x0) (y0 := y0) (pl := pl) lw0 lh0 (by omega)
  have hleft := initM_left (x0 := x0) (y0 := y0) lw0 lh0 lp0
  have hroot : NdOk rootN := ⟨by decide, by decide, by decide, by decide, by decide⟩
  refine s_gtup (.of (s1.1 _ _ e1)) rfl ?_
  walk_at "r"
  refine ⟨rfl, F1, p, r, x0, y0, w, h, pl, rfl, s1, er, lk, fun q2 la pa F2 H2 js m n s2 t2 e2 ela epa hpath hpl => ?_⟩
  have er2 := t2.ff _ _ er
  obtain ⟨eP, mok, nok, hll, hns, _⟩ := path_run hok hroot hpath
  have hs16 : n.s ≤ 16 + 6 * js.length := hns
  have hl0 : leftM m = 0 := by unfold leftM; rw [if_pos hpl]
  have hjl : (js.length : Int) = pl * (w * h : Nat) := by rw [← hleft]; omega
  have hjl2 : js.length ≤ 12 := by omega
  have hjs : js ≠ [] := fun e => by
    have : 0 < pl * ((w * h : Nat) : Int) := Int.mul_pos (by omega) (by omega)
    have h0 : js.length = 0 := by rw [e]; rfl
    omega
  obtain ⟨eb, ein, emin, elen⟩ := end_bits nok
  generalize endOf n.l n.w n.s = bs at epa eb ein emin elen
  refine s_gtup (.of (s2.1 _ _ e2)) rfl ?_
  walk_at "r"
  refine s_len (.of (s2.1 _ _ ela)) ?_
  walk_at "r"
  refine s_ixT (i := 1) (v := .int (x0 + (w : Int))) (.of (s2.1 _ _ er2)) rfl ?_
  walk_at "r"
  refine s_ixT (i := 0) (v := .int x0) (.of (s2.1 _ _ er2)) rfl ?_
  walk_at "r"
  rw [show x0 + (w : Int) - x0 = (w : Int) by omega]
  refine s_ixT (i := 3) (v := .int (y0 + (h : Int))) (.of (s2.1 _ _ er2)) rfl ?_
  walk_at "r"
  refine s_ixT (i := 2) (v := .int y0) (.of (s2.1 _ _ er2)) rfl ?_
  walk_at "r"
  rw [show y0 + (h : Int) - y0 = (h : Int) by omega]
  rw [List.length_map]
  refine ifn (fun _ => ?_) (fun hn => absurd (show (js.length : Int) = pl * (w : Int) * (h : Int) by rw [hjl, Int.natCast_mul, Int.mul_assoc]) hn)
  walk_at "r"
  refine s_len (.of (s2.1 _ _ epa)) ?_
  walk_at "r"
  rw [List.length_map]
  have hbl : bs.length ≤ 88 := by omega
  refine ⟨_, rfl, by omega, by omega, ?_⟩
  have enb : ((bs.length : Int) + 1).toNat = bs.length + 1 := by omega
  rw [enb]
  refine forR (fun i σ H' => ∃ (mn : Nat) (v6 v7 v8 : Option V), σ = [some (.ref p), some (.ref r), some (.int pl), some (.ref la), some (.ref pa), some (.int mn), v6, v7, v8, none, none] ∧ Src F2 H' p ∧ (i = 0 ∧ mn = 0 ∨ ∃ (i' : Nat) (ks : List Nat) (m' : Mdl), i = i' + 1 ∧ i' ≤ bs.length ∧ ToldK (iniM x0 y0 w h pl) rootN js (numL (bs.take i')) i' ks m' ∧ mn = ks.length)) ⟨0, _, _, _, rfl, s2, .inl ⟨rfl, rfl⟩⟩ ?_ ?_
  · rintro i σ H3 hi ⟨mn, v6, v7, v8, rfl, s3, hmn⟩
    have hi' : i ≤ bs.length := by omega
    have ei : (0 : Int) + (i : Int) = ((i : Nat) : Int) := by omega
    dsimp only
    rw [ei]
    walk_at "r"
    refine mk_line s3.1 er2 lw0 lh0 (by omega) lp0 hp20 fun A F4 H4 t4 z4 cn4 => ?_
    have s4 : Src F4 H4 p := s3.step t4 fun h => h
    walk_at "r"
    refine s_slL (.of (s4.1 _ _ (t4.ff _ _ epa))) fun pb hpb => ?_
    rw [cutV_to, ← List.map_take]
    have hlt : (bs.take i).length = i := by rw [List.length_take]; omega
    have t5 : Stp S0 F4 H4 (upd F4 pb (.lst ((bs.take i).map V.int))) (upd H4 pb (.lst ((bs.take i).map V.int))) := Stp.new z4.fh hpb
    have e5 : upd F4 pb (.lst ((bs.take i).map V.int)) pb = some (.lst ((bs.take i).map V.int)) := upd_same
    have z5 := z4.step t5 fun _ _ h => h
    have s5 := s4.step t5 fun h => h
    generalize upd F4 pb (.lst ((bs.take i).map V.int)) = F5 at t5 e5 z5 s5
    generalize upd H4 pb (.lst ((bs.take i).map V.int)) = H5 at t5 z5 s5 ⊢
    walk_at "r"
    have hb5 : Bits (bs.take i) := fun x hx => eb x (List.mem_of_mem_take hx)
    have hple : leftM (iniM x0 y0 w h pl) ≤ 100 := by omega
    refine ⟨rfl, F5, A, iniM x0 y0 w h pl, pb, bs.take i, rfl, z5, hok, hple, .of e5, hb5, by omega, fun ks m' F6 H6 A' p6 hT t6 z6 hA6 cc6 mok6 hp6 e6 => ?_⟩
    rw [hlt] at hT
    have hext : Ext (numL (bs.take i)) i (numL bs) bs.length := by
      have := ext_app (a := bs.take i) (b := bs.drop i) fun x hx => eb x (List.mem_of_mem_drop hx)
      rw [List.take_append_drop, hlt] at this
      exact this
    obtain ⟨n', hTp, hTe⟩ := hT
    have tk := toldK hok hroot hpath hpl ein hext hTp hTe
    have hall : ks.length = js.length ↔ i = bs.length := by
      rw [toldK_all hok hroot hpath hjs tk]
      constructor
      · intro hin
        exact Nat.le_antisymm hi' (Nat.le_of_not_lt fun c => emin i _ c hin)
      · intro e
        rw [e, List.take_length]; exact ein
    have np6 : p ∉ A.cells := fun hc => by
      obtain ⟨_, _, ep, _⟩ := s3.2.2
      rw [cn4 p hc] at ep; cases ep
    have s6 : Src F6 H6 p := s5.step t6 np6
    have ff6 : Same F2 F6 := t4.ff.trans (t5.ff.trans t6.ff)
    have ela6 := s6.1 _ _ (ff6 _ _ ela)
    have epa6 := s6.1 _ _ (ff6 _ _ epa)
    have e6' := s6.1 _ _ e6
    walk_at "r"
    rw [List.length_map]
    refine s_slL (.of ela6) fun p7 hp7 => ?_
    rw [cutV_to, ← List.map_take]
    have s67 := (Stp.new (S := S0) (o := .lst ((js.take ks.length).map fun (j : Nat) => V.int (j : Int))) (Same.refl H6) hp7).same
    have e7 : upd H6 p7 (.lst ((js.take ks.length).map fun (j : Nat) => V.int (j : Int))) p7 = some (.lst ((js.take ks.length).map fun (j : Nat) => V.int (j : Int))) := upd_same
    generalize upd H6 p7 (.lst ((js.take ks.length).map fun (j : Nat) => V.int (j : Int))) = H7 at s67 e7 ⊢
    refine s_neL (ns := ks.map fun (j : Nat) => (j : Int)) (ms := (js.take ks.length).map fun (j : Nat) => (j : Int)) (SqL.of (by rw [← nats_ints]; exact s67 _ _ e6')) (SqL.of (by rw [← nats_ints]; exact e7)) ?_
    walk_at "r"
    refine ifn (fun _ => ?_) (fun hne => absurd (by rw [← tk.eq]) hne)
    have e67 := s67 _ _ e6'
    have ela7 := s67 _ _ ela6
    have epa7 := s67 _ _ epa6
    walk_at "r"
    rw [List.length_map]
    refine ifd (fun hlt2 => ?_) (fun _ => ?_)
    · exfalso
      rcases hmn with ⟨_, e⟩ | ⟨i', ks', m'', e1', e2', tk', e3'⟩
      · omega
      · have hm := toldK_mono (?_ : Ext (numL (bs.take i')) i' (numL (bs.take i)) i) tk' tk
        · omega
        · have := ext_app (a := bs.take i') (b := (bs.take i).drop i') fun x hx => eb x (List.mem_of_mem_take (List.mem_of_mem_drop hx))
          have e4 : bs.take i' ++ (bs.take i).drop i' = bs.take i := by
            have h5 := List.take_append_drop i' (bs.take i)
            rw [List.take_take, Nat.min_eq_left (by omega)] at h5
            exact h5
          rw [e4, hlt, List.length_take, Nat.min_eq_left e2'] at this
          exact this
    walk_at "r"
    refine s_neBl (by rw [List.length_map, List.length_map, List.length_map, decide_eq_decide]; omega) ?_
    have z7 := z6.of s67
    have s7 := s6.of s67
    walk_at "r"
    refine ⟨A.a, A'.dx, _, rfl, by rw [← hA6]; exact z7.o, rfl, ?_⟩
    have fin : ∀ H8, Same H7 H8 → ∃ (mn : Nat) (v6 v7 v8 : Option V), [some (.ref p), some (.ref r), some (.int pl), some (.ref la), some (.ref pa), some (.int (ks.length : Nat)), some (.int (i : Int)), some (.ref A.a), some (.ref p6), none, none] = [some (.ref p), some (.ref r), some (.int pl), some (.ref la), some (.ref pa), some (.int (mn : Nat)), v6, v7, v8, none, none] ∧ Src F2 H8 p ∧ (i + 1 = 0 ∧ mn = 0 ∨ ∃ (i' : Nat) (ks : List Nat) (m' : Mdl), i + 1 = i' + 1 ∧ i' ≤ bs.length ∧ ToldK (iniM x0 y0 w h pl) rootN js (numL (bs.take i')) i' ks m' ∧ mn = ks.length) := fun H8 s8 => ⟨ks.length, _, _, _, rfl, (s7.of s8).weak ff6, .inr ⟨i, ks, m', rfl, hi', tk, rfl⟩⟩
    have hov := tk.over
    by_cases hpn : m'.plane < 0
    · refine ⟨rfl, F6, A', m', by rw [hA6]; rfl, z7, mok6, .inl ⟨hpn, ?_⟩⟩
      walk_at "r"
      refine ⟨rfl, ?_⟩
      walk_at "r"
      refine s_neBl (by rw [List.length_map, decide_eq_decide]; exact ⟨fun _ => by have := hall.mp (hov.mp hpn); omega, fun _ => rfl⟩) ?_
      walk_at "r"
      rw [List.length_map]
      exact fin H7 (Same.refl _)
    · refine ⟨rfl, F6, A', m', by rw [hA6]; rfl, z7, mok6, .inr ⟨by omega, fun p8 c8 H8 s8 _ _ _ => ?_⟩⟩
      have e68 := s8 _ _ e67
      have epa8 := s8 _ _ epa7
      walk_at "r"
      refine ⟨rfl, ?_⟩
      walk_at "r"
      refine s_neBl (by rw [List.length_map, decide_eq_decide]; exact ⟨fun h => (by cases h), fun h => absurd (hov.mpr (hall.mpr (by omega))) hpn⟩) ?_
      walk_at "r"
      rw [List.length_map]
      exact fin H8 s8
  · rintro σ H3 ⟨mn, v6, v7, v8, rfl, s3, hmn⟩
    walk_at "r"
    refine ⟨rfl, F2, p, _, rfl, s3, by decide, by decide, fun r1 H4 s4 t4 r10 r11 => ?_⟩
    walk_at "r"
    refine ⟨_, rfl, by omega, by omega, ?_⟩
    refine lcW walk_range (S1 p) s4.1 (fun b e => e ▸ s4.dom) (fun _ _ _ => trivial) (fun i acc F H => Src F H p ∧ ∃ cs : List Int, acc = cs.map V.int ∧ cs.length = i ∧ Bits cs)
      (fun _ _ _ _ _ _ n f _ r => ⟨r.1.upd n f, r.2⟩) ⟨s4, [], rfl, rfl, fun _ h => absurd h (by simp)⟩ ?_ ?_
    · rintro j x acc d F5 H5 H6 hj ⟨rfl, rfl⟩ hd nS st f0 e hl ⟨rs, cs, rl, rn, rb⟩
      walk_at "r"
      refine ⟨rfl, F5, p, _, rfl, rs, by decide, by decide, fun x' H7 s7 t7 x0' x1' => lc_end hd nS st f0 e hl (by omega) t7 ⟨s7.upd nS f0, cs ++ [x'], ?_, by simp [rn], ?_⟩⟩
      · rw [rl]; simp
      · intro y hy
        rcases List.mem_append.mp hy with hy | hy
        · exact rb y hy
        · simp at hy; unfold isBit; omega
    intro d acc F5 F6 H5 st hd f0 ef st1 hl ⟨rs, cs, rl, rn, rb⟩
    subst ef
    have s6 : Src (upd F5 d (.lst acc)) H5 p := rs.frz (s4.ne hd) st1.fh
    have ff6 : Same F2 (upd F5 d (.lst acc)) := st1.ff
    have ed : upd F5 d (.lst acc) d = some (.lst (cs.map V.int)) := by rw [upd_same, rl]
    generalize upd F5 d (.lst acc) = F6 at s6 ff6 ed
    clear st1 rs st
    have hcl : cs.length ≤ 6 := by omega
    walk_at "r"
    refine ⟨pa, d, _, _, rfl, rfl, s6.1 _ _ (ff6 _ _ epa), s6.1 _ _ ed, sz (by rw [List.length_map, List.length_map]; omega), fun pc hpc => ?_⟩
    rw [← List.map_append]
    have t7 : Stp S0 F6 H5 (upd F6 pc (.lst ((bs ++ cs).map V.int))) (upd H5 pc (.lst ((bs ++ cs).map V.int))) := Stp.new s6.1 hpc
    have e7 : upd F6 pc (.lst ((bs ++ cs).map V.int)) pc = some (.lst ((bs ++ cs).map V.int)) := upd_same
    have s7 := s6.step t7 fun h => h
    generalize upd F6 pc (.lst ((bs ++ cs).map V.int)) = F7 at t7 e7 s7
    generalize upd H5 pc (.lst ((bs ++ cs).map V.int)) = H7 at t7 s7 ⊢
    have ff7 : Same F2 F7 := ff6.trans t7.ff
    walk_at "r"
    refine mk_line s7.1 (ff7 _ _ er2) lw0 lh0 (by omega) lp0 hp20 fun A F8 H8 t8 z8 cn8 => ?_
    have s8 : Src F8 H8 p := s7.step t8 fun h => h
    have hb8 : Bits (bs ++ cs) := fun x hx => (List.mem_append.mp hx).elim (eb x) (rb x)
    have hple : leftM (iniM x0 y0 w h pl) ≤ 100 := by omega
    walk_at "r"
    refine ⟨rfl, F8, A, iniM x0 y0 w h pl, pc, bs ++ cs, rfl, z8, hok, hple, .of (t8.ff _ _ e7), hb8, by rw [List.length_append]; omega, fun ks m' F9 H9 A' p9 hT t9 z9 hA9 cc9 mok9 hp9 e9 => ?_⟩
    have hin : InN n (numL (bs ++ cs)) (bs ++ cs).length := in_ext (ext_app rb) ein
    obtain ⟨n', hTp, hTe⟩ := hT
    have tk := toldK hok hroot hpath hpl hin (ext_refl _ _) hTp hTe
    have hkl := (toldK_all hok hroot hpath hjs tk).mpr hin
    have hks : ks = js := by rw [tk.eq, hkl, List.take_length]
    have np9 : p ∉ A.cells := fun hc => by
      obtain ⟨_, _, ep, _⟩ := s7.2.2
      rw [cn8 p hc] at ep; cases ep
    have s9 : Src F9 H9 p := s8.step t9 np9
    have ff9 : Same F2 F9 := ff7.trans (t8.ff.trans t9.ff)
    walk_at "r"
    refine s_eqL (ns := ks.map fun (j : Nat) => (j : Int)) (ms := js.map fun (j : Nat) => (j : Int)) (SqL.of (by rw [← nats_ints]; exact s9.1 _ _ e9)) (SqL.of (by rw [← nats_ints]; exact s9.1 _ _ (ff9 _ _ ela))) ?_
    rw [hks, decide_eq_true rfl]
    exact q _ fun b o e => s9.1 _ _ (ff9 _ _ (t2.ff _ _ (t1.ff _ _ e)))
abbrev s_law : Stmt := topS 47
theorem sc_law : FnScope ["_law_script", "_law_k"] ["_law_script"] (defScope s_law) := ⟨rfl, rfl, rfl, by decide +kernel, rfl, by decide +kernel, by decide +kernel⟩
def Ok_law (P : Program) (w : World) (K : PySem.W.Frag) (mg : Str → Option Value) (base : Heap) : Prop := ∃ fA fd, Fn P w K mg base (L2.CX P w) 7 "law" s_law fA fd ["_law_script"] (sp_law K mg)
theorem okx_law (Z : Zs K mg) {fA : Addr} {fd : FuncData} (F : Fun K "law" "law" s_law fA fd) (m : mg "law" = some (.ref fA)) (C_law_right : Ok_law_right P w K mg base) (C_law_pool : Ok_law_pool P w K mg base) : Fn P w K mg base (L2.CX P w) 7 "law" s_law fA fd ["_law_script"] (sp_law K mg) := by
  obtain ⟨_, _, C_law_right⟩ := C_law_right
  obtain ⟨_, _, C_law_pool⟩ := C_law_pool
  refine ⟨F.okX sc_law (fun vs H Q E h => h.1) (fun cdv A outer s H vs Q E hr h => ?_), m, F.kp, F.binds fun _ _ _ _ _ _ us hl => match us, hl with | [_], _ => rfl, F⟩
  have hu64 := hr.units
  obtain ⟨hlen, h⟩ := h
  refine ⟨_, (pss_cons (ps_for (passes_of rfl) rfl (pi_range1 rfl Z.z_range (pa_cons (pe_callB (c_max2 rfl) (by rfl) Z.z_max (by decide +kernel) (pa_cons pe_int (pa_cons (pe_callB (c_min2 rfl) (by rfl) Z.z_min (by decide +kernel) (pa_cons (pe_callB (c_len K rfl) (by rfl) Z.z_len (by decide +kernel) (pa_cons (pv 0) pa_nil)) (pa_cons pe_int pa_nil))) pa_nil))) pa_nil)) (pg_name (i := 1) sc_law.nd rfl (Or.inl rfl))
      (pss_one (ps_if (pt_not (pt_val (pe_call C_law_right.G (hr.mono (by decide)) rfl C_law_right.m C_law_right.kp C_law_right.b .nil passL (pa_cons (pe_call C_law_pool.G (hr.mono (by decide)) rfl C_law_pool.m C_law_pool.kp C_law_pool.b .nil passL (pa_cons (pv 0) (pa_cons (pv 1) pa_nil))) pa_nil))))
      (pss_one (ps_ret pe_bl))
      pss_nil)))
    (pss_one (ps_ret pe_bl))), ?_⟩
  obtain ⟨sc, ns, rfl, hS, hl, q⟩ := h
  walk_at "r"
  refine ⟨_, rfl, by split <;> split <;> omega, by split <;> split <;> omega, ?_⟩
  refine forR (fun i σ H' => ∃ v1, σ = [some (.ref sc), v1] ∧ Same H H') ⟨_, rfl, Same.refl H⟩ ?_ ?_
  · rintro i σ H1 hi ⟨v1, rfl, e1⟩
    have hi21 : i < 21 := Nat.lt_of_lt_of_le hi (by split <;> split <;> omega)
    walk_at "r"
    refine ⟨rfl, sc, ns, _, rfl, e1.seq hS, by omega, by omega, fun p H2 s2 => ?_⟩
    walk_at "r"
    refine ⟨rfl, H1, p, rfl, s2, fun H3 s3 => ?_⟩
    walk_at "r"
    exact ⟨_, rfl, e1.trans s3⟩
  · rintro σ H1 ⟨v1, rfl, e1⟩
    walk_at "r"
    exact q _
end
theorem all_mk {l : PySem.W.OpenLaw} {w : World} {K : PySem.W.Frag} {h : Heap} {mg : Str → Option Value} {fa : Addr} (X : K.In h) (G : h.Ns mainGlobals mg) (hfa : mg "law" = some (.ref fa))
    {f0 : Addr} {od0 an0 : Option Addr} {sl0 : Array (Option Value)} {oc0 kV0 dc0 pm0 cd0 ct0 : Value}
    (a0 : PySem.W.nsIn K mainGlobals "is_bit" = some (some (.ref f0))) (l0 : K.lookup f0 = some ⟨oc0, od0, .func (PySem.W.fnOf "is_bit" "is_bit" (defArgs s_is_bit) (defBody s_is_bit) (defScope s_is_bit) .none kV0 dc0 pm0 an0 cd0 ct0), sl0⟩) (c0 : PySem.W.codeIn K cd0 "is_bit" = true) (k0 : PySem.W.keepIn K (.ref f0) = true)
    {f1 : Addr} {od1 an1 : Option Addr} {sl1 : Array (Option Value)} {oc1 kV1 dc1 pm1 cd1 ct1 : Value}
    (a1 : PySem.W.nsIn K mainGlobals "check_bits" = some (some (.ref f1))) (l1 : K.lookup f1 = some ⟨oc1, od1, .func (PySem.W.fnOf "check_bits" "check_bits" (defArgs s_check_bits) (defBody s_check_bits) (defScope s_check_bits) .none kV1 dc1 pm1 an1 cd1 ct1), sl1⟩) (c1 : PySem.W.codeIn K cd1 "check_bits" = true) (k1 : PySem.W.keepIn K (.ref f1) = true)
    {f2 : Addr} {od2 an2 : Option Addr} {sl2 : Array (Option Value)} {oc2 kV2 dc2 pm2 cd2 ct2 : Value}
    (a2 : PySem.W.nsIn K mainGlobals "number_of" = some (some (.ref f2))) (l2 : K.lookup f2 = some ⟨oc2, od2, .func (PySem.W.fnOf "number_of" "number_of" (defArgs s_number_of) (defBody s_number_of) (defScope s_number_of) .none kV2 dc2 pm2 an2 cd2 ct2), sl2⟩) (c2 : PySem.W.codeIn K cd2 "number_of" = true) (k2 : PySem.W.keepIn K (.ref f2) = true)
    {f3 : Addr} {od3 an3 : Option Addr} {sl3 : Array (Option Value)} {oc3 kV3 dc3 pm3 cd3 ct3 : Value}
    (a3 : PySem.W.nsIn K mainGlobals "fixed" = some (some (.ref f3))) (l3 : K.lookup f3 = some ⟨oc3, od3, .func (PySem.W.fnOf "fixed" "fixed" (defArgs s_fixed) (defBody s_fixed) (defScope s_fixed) .none kV3 dc3 pm3 an3 cd3 ct3), sl3⟩) (c3 : PySem.W.codeIn K cd3 "fixed" = true) (k3 : PySem.W.keepIn K (.ref f3) = true)
    {f4 : Addr} {od4 an4 : Option Addr} {sl4 : Array (Option Value)} {oc4 kV4 dc4 pm4 cd4 ct4 : Value}
    (a4 : PySem.W.nsIn K mainGlobals "next_node" = some (some (.ref f4))) (l4 : K.lookup f4 = some ⟨oc4, od4, .func (PySem.W.fnOf "next_node" "next_node" (defArgs s_next_node) (defBody s_next_node) (defScope s_next_node) .none kV4 dc4 pm4 an4 cd4 ct4), sl4⟩) (c4 : PySem.W.codeIn K cd4 "next_node" = true) (k4 : PySem.W.keepIn K (.ref f4) = true)
    {f5 : Addr} {od5 an5 : Option Addr} {sl5 : Array (Option Value)} {oc5 kV5 dc5 pm5 cd5 ct5 : Value}
    (a5 : PySem.W.nsIn K mainGlobals "end_of" = some (some (.ref f5))) (l5 : K.lookup f5 = some ⟨oc5, od5, .func (PySem.W.fnOf "end_of" "end_of" (defArgs s_end_of) (defBody s_end_of) (defScope s_end_of) .none kV5 dc5 pm5 an5 cd5 ct5), sl5⟩) (c5 : PySem.W.codeIn K cd5 "end_of" = true) (k5 : PySem.W.keepIn K (.ref f5) = true)
    {f6 : Addr} {od6 an6 : Option Addr} {sl6 : Array (Option Value)} {oc6 kV6 dc6 pm6 cd6 ct6 : Value}
    (l6 : K.lookup f6 = some ⟨oc6, od6, .func (PySem.W.fnOf "__init__" "Ranger.__init__" (defArgs s_Ranger___init__) (defBody s_Ranger___init__) (defScope s_Ranger___init__) .none kV6 dc6 pm6 an6 cd6 ct6), sl6⟩) (c6 : PySem.W.codeIn K cd6 "Ranger.__init__" = true) (k6 : PySem.W.keepIn K (.ref f6) = true)
    {f7 : Addr} {od7 an7 : Option Addr} {sl7 : Array (Option Value)} {oc7 kV7 dc7 pm7 cd7 ct7 : Value}
    (l7 : K.lookup f7 = some ⟨oc7, od7, .func (PySem.W.fnOf "take" "Ranger.take" (defArgs s_Ranger_take) (defBody s_Ranger_take) (defScope s_Ranger_take) .none kV7 dc7 pm7 an7 cd7 ct7), sl7⟩) (c7 : PySem.W.codeIn K cd7 "Ranger.take" = true) (k7 : PySem.W.keepIn K (.ref f7) = true)
    {f8 : Addr} {od8 an8 : Option Addr} {sl8 : Array (Option Value)} {oc8 kV8 dc8 pm8 cd8 ct8 : Value}
    (l8 : K.lookup f8 = some ⟨oc8, od8, .func (PySem.W.fnOf "end" "Ranger.end" (defArgs s_Ranger_end) (defBody s_Ranger_end) (defScope s_Ranger_end) .none kV8 dc8 pm8 an8 cd8 ct8), sl8⟩) (c8 : PySem.W.codeIn K cd8 "Ranger.end" = true) (k8 : PySem.W.keepIn K (.ref f8) = true)
    {f9 : Addr} {od9 an9 : Option Addr} {sl9 : Array (Option Value)} {oc9 kV9 dc9 pm9 cd9 ct9 : Value}
    (a9 : PySem.W.nsIn K mainGlobals "holds" = some (some (.ref f9))) (l9 : K.lookup f9 = some ⟨oc9, od9, .func (PySem.W.fnOf "holds" "holds" (defArgs s_holds) (defBody s_holds) (defScope s_holds) .none kV9 dc9 pm9 an9 cd9 ct9), sl9⟩) (c9 : PySem.W.codeIn K cd9 "holds" = true) (k9 : PySem.W.keepIn K (.ref f9) = true)
    {f10 : Addr} {od10 an10 : Option Addr} {sl10 : Array (Option Value)} {oc10 kV10 dc10 pm10 cd10 ct10 : Value}
    (a10 : PySem.W.nsIn K mainGlobals "told_child" = some (some (.ref f10))) (l10 : K.lookup f10 = some ⟨oc10, od10, .func (PySem.W.fnOf "told_child" "told_child" (defArgs s_told_child) (defBody s_told_child) (defScope s_told_child) .none kV10 dc10 pm10 an10 cd10 ct10), sl10⟩) (c10 : PySem.W.codeIn K cd10 "told_child" = true) (k10 : PySem.W.keepIn K (.ref f10) = true)
    {f11 : Addr} {od11 an11 : Option Addr} {sl11 : Array (Option Value)} {oc11 kV11 dc11 pm11 cd11 ct11 : Value}
    (a11 : PySem.W.nsIn K mainGlobals "told_letters" = some (some (.ref f11))) (l11 : K.lookup f11 = some ⟨oc11, od11, .func (PySem.W.fnOf "told_letters" "told_letters" (defArgs s_told_letters) (defBody s_told_letters) (defScope s_told_letters) .none kV11 dc11 pm11 an11 cd11 ct11), sl11⟩) (c11 : PySem.W.codeIn K cd11 "told_letters" = true) (k11 : PySem.W.keepIn K (.ref f11) = true)
    {f12 : Addr} {od12 an12 : Option Addr} {sl12 : Array (Option Value)} {oc12 kV12 dc12 pm12 cd12 ct12 : Value}
    (a12 : PySem.W.nsIn K mainGlobals "want_rect" = some (some (.ref f12))) (l12 : K.lookup f12 = some ⟨oc12, od12, .func (PySem.W.fnOf "want_rect" "want_rect" (defArgs s_want_rect) (defBody s_want_rect) (defScope s_want_rect) .none kV12 dc12 pm12 an12 cd12 ct12), sl12⟩) (c12 : PySem.W.codeIn K cd12 "want_rect" = true) (k12 : PySem.W.keepIn K (.ref f12) = true)
    {f13 : Addr} {od13 an13 : Option Addr} {sl13 : Array (Option Value)} {oc13 kV13 dc13 pm13 cd13 ct13 : Value}
    (l13 : K.lookup f13 = some ⟨oc13, od13, .func (PySem.W.fnOf "__init__" "Table.__init__" (defArgs s_Table___init__) (defBody s_Table___init__) (defScope s_Table___init__) .none kV13 dc13 pm13 an13 cd13 ct13), sl13⟩) (c13 : PySem.W.codeIn K cd13 "Table.__init__" = true) (k13 : PySem.W.keepIn K (.ref f13) = true)
    {f14 : Addr} {od14 an14 : Option Addr} {sl14 : Array (Option Value)} {oc14 kV14 dc14 pm14 cd14 ct14 : Value}
    (l14 : K.lookup f14 = some ⟨oc14, od14, .func (PySem.W.fnOf "counts" "Table.counts" (defArgs s_Table_counts) (defBody s_Table_counts) (defScope s_Table_counts) .none kV14 dc14 pm14 an14 cd14 ct14), sl14⟩) (c14 : PySem.W.codeIn K cd14 "Table.counts" = true) (k14 : PySem.W.keepIn K (.ref f14) = true)
    {f15 : Addr} {od15 an15 : Option Addr} {sl15 : Array (Option Value)} {oc15 kV15 dc15 pm15 cd15 ct15 : Value}
    (l15 : K.lookup f15 = some ⟨oc15, od15, .func (PySem.W.fnOf "learn" "Table.learn" (defArgs s_Table_learn) (defBody s_Table_learn) (defScope s_Table_learn) .none kV15 dc15 pm15 an15 cd15 ct15), sl15⟩) (c15 : PySem.W.codeIn K cd15 "Table.learn" = true) (k15 : PySem.W.keepIn K (.ref f15) = true)
    {f16 : Addr} {od16 an16 : Option Addr} {sl16 : Array (Option Value)} {oc16 kV16 dc16 pm16 cd16 ct16 : Value}
    (a16 : PySem.W.nsIn K mainGlobals "want_planes" = some (some (.ref f16))) (l16 : K.lookup f16 = some ⟨oc16, od16, .func (PySem.W.fnOf "want_planes" "want_planes" (defArgs s_want_planes) (defBody s_want_planes) (defScope s_want_planes) .none kV16 dc16 pm16 an16 cd16 ct16), sl16⟩) (c16 : PySem.W.codeIn K cd16 "want_planes" = true) (k16 : PySem.W.keepIn K (.ref f16) = true)
    {f17 : Addr} {od17 an17 : Option Addr} {sl17 : Array (Option Value)} {oc17 kV17 dc17 pm17 cd17 ct17 : Value}
    (a17 : PySem.W.nsIn K mainGlobals "neighbours_of" = some (some (.ref f17))) (l17 : K.lookup f17 = some ⟨oc17, od17, .func (PySem.W.fnOf "neighbours_of" "neighbours_of" (defArgs s_neighbours_of) (defBody s_neighbours_of) (defScope s_neighbours_of) .none kV17 dc17 pm17 an17 cd17 ct17), sl17⟩) (c17 : PySem.W.codeIn K cd17 "neighbours_of" = true) (k17 : PySem.W.keepIn K (.ref f17) = true)
    {f18 : Addr} {od18 an18 : Option Addr} {sl18 : Array (Option Value)} {oc18 kV18 dc18 pm18 cd18 ct18 : Value}
    (l18 : K.lookup f18 = some ⟨oc18, od18, .func (PySem.W.fnOf "__init__" "LineModel.__init__" (defArgs s_LineModel___init__) (defBody s_LineModel___init__) (defScope s_LineModel___init__) .none kV18 dc18 pm18 an18 cd18 ct18), sl18⟩) (c18 : PySem.W.codeIn K cd18 "LineModel.__init__" = true) (k18 : PySem.W.keepIn K (.ref f18) = true)
    {f19 : Addr} {od19 an19 : Option Addr} {sl19 : Array (Option Value)} {oc19 kV19 dc19 pm19 cd19 ct19 : Value}
    (l19 : K.lookup f19 = some ⟨oc19, od19, .func (PySem.W.fnOf "_is_near" "LineModel._is_near" (defArgs s_LineModel__is_near) (defBody s_LineModel__is_near) (defScope s_LineModel__is_near) .none kV19 dc19 pm19 an19 cd19 ct19), sl19⟩) (c19 : PySem.W.codeIn K cd19 "LineModel._is_near" = true) (k19 : PySem.W.keepIn K (.ref f19) = true)
    {f20 : Addr} {od20 an20 : Option Addr} {sl20 : Array (Option Value)} {oc20 kV20 dc20 pm20 cd20 ct20 : Value}
    (l20 : K.lookup f20 = some ⟨oc20, od20, .func (PySem.W.fnOf "_turns_of_plane" "LineModel._turns_of_plane" (defArgs s_LineModel__turns_of_plane) (defBody s_LineModel__turns_of_plane) (defScope s_LineModel__turns_of_plane) .none kV20 dc20 pm20 an20 cd20 ct20), sl20⟩) (c20 : PySem.W.codeIn K cd20 "LineModel._turns_of_plane" = true) (k20 : PySem.W.keepIn K (.ref f20) = true)
    {f21 : Addr} {od21 an21 : Option Addr} {sl21 : Array (Option Value)} {oc21 kV21 dc21 pm21 cd21 ct21 : Value}
    (l21 : K.lookup f21 = some ⟨oc21, od21, .func (PySem.W.fnOf "_table_number" "LineModel._table_number" (defArgs s_LineModel__table_number) (defBody s_LineModel__table_number) (defScope s_LineModel__table_number) .none kV21 dc21 pm21 an21 cd21 ct21), sl21⟩) (c21 : PySem.W.codeIn K cd21 "LineModel._table_number" = true) (k21 : PySem.W.keepIn K (.ref f21) = true)
    {f22 : Addr} {od22 an22 : Option Addr} {sl22 : Array (Option Value)} {oc22 kV22 dc22 pm22 cd22 ct22 : Value}
    (l22 : K.lookup f22 = some ⟨oc22, od22, .func (PySem.W.fnOf "wanted" "LineModel.wanted" (defArgs s_LineModel_wanted) (defBody s_LineModel_wanted) (defScope s_LineModel_wanted) .none kV22 dc22 pm22 an22 cd22 ct22), sl22⟩) (c22 : PySem.W.codeIn K cd22 "LineModel.wanted" = true) (k22 : PySem.W.keepIn K (.ref f22) = true)
    {f23 : Addr} {od23 an23 : Option Addr} {sl23 : Array (Option Value)} {oc23 kV23 dc23 pm23 cd23 ct23 : Value}
    (l23 : K.lookup f23 = some ⟨oc23, od23, .func (PySem.W.fnOf "wanted_counts" "LineModel.wanted_counts" (defArgs s_LineModel_wanted_counts) (defBody s_LineModel_wanted_counts) (defScope s_LineModel_wanted_counts) .none kV23 dc23 pm23 an23 cd23 ct23), sl23⟩) (c23 : PySem.W.codeIn K cd23 "LineModel.wanted_counts" = true) (k23 : PySem.W.keepIn K (.ref f23) = true)
    {f24 : Addr} {od24 an24 : Option Addr} {sl24 : Array (Option Value)} {oc24 kV24 dc24 pm24 cd24 ct24 : Value}
    (l24 : K.lookup f24 = some ⟨oc24, od24, .func (PySem.W.fnOf "take" "LineModel.take" (defArgs s_LineModel_take) (defBody s_LineModel_take) (defScope s_LineModel_take) .none kV24 dc24 pm24 an24 cd24 ct24), sl24⟩) (c24 : PySem.W.codeIn K cd24 "LineModel.take" = true) (k24 : PySem.W.keepIn K (.ref f24) = true)
    {f25 : Addr} {od25 an25 : Option Addr} {sl25 : Array (Option Value)} {oc25 kV25 dc25 pm25 cd25 ct25 : Value}
    (l25 : K.lookup f25 = some ⟨oc25, od25, .func (PySem.W.fnOf "_go_on" "LineModel._go_on" (defArgs s_LineModel__go_on) (defBody s_LineModel__go_on) (defScope s_LineModel__go_on) .none kV25 dc25 pm25 an25 cd25 ct25), sl25⟩) (c25 : PySem.W.codeIn K cd25 "LineModel._go_on" = true) (k25 : PySem.W.keepIn K (.ref f25) = true)
    {f26 : Addr} {od26 an26 : Option Addr} {sl26 : Array (Option Value)} {oc26 kV26 dc26 pm26 cd26 ct26 : Value}
    (a26 : PySem.W.nsIn K mainGlobals "_law_pool" = some (some (.ref f26))) (l26 : K.lookup f26 = some ⟨oc26, od26, .func (PySem.W.fnOf "_law_pool" "_law_pool" (defArgs s_law_pool) (defBody s_law_pool) (defScope s_law_pool) .none kV26 dc26 pm26 an26 cd26 ct26), sl26⟩) (c26 : PySem.W.codeIn K cd26 "_law_pool" = true) (k26 : PySem.W.keepIn K (.ref f26) = true)
    {f27 : Addr} {od27 an27 : Option Addr} {sl27 : Array (Option Value)} {oc27 kV27 dc27 pm27 cd27 ct27 : Value}
    (a27 : PySem.W.nsIn K mainGlobals "_law_take" = some (some (.ref f27))) (l27 : K.lookup f27 = some ⟨oc27, od27, .func (PySem.W.fnOf "_law_take" "_law_take" (defArgs s_law_take) (defBody s_law_take) (defScope s_law_take) .none kV27 dc27 pm27 an27 cd27 ct27), sl27⟩) (c27 : PySem.W.codeIn K cd27 "_law_take" = true) (k27 : PySem.W.keepIn K (.ref f27) = true)
    {f28 : Addr} {od28 an28 : Option Addr} {sl28 : Array (Option Value)} {oc28 kV28 dc28 pm28 cd28 ct28 : Value}
    (a28 : PySem.W.nsIn K mainGlobals "_law_one" = some (some (.ref f28))) (l28 : K.lookup f28 = some ⟨oc28, od28, .func (PySem.W.fnOf "_law_one" "_law_one" (defArgs s_law_one) (defBody s_law_one) (defScope s_law_one) .none kV28 dc28 pm28 an28 cd28 ct28), sl28⟩) (c28 : PySem.W.codeIn K cd28 "_law_one" = true) (k28 : PySem.W.keepIn K (.ref f28) = true)
    {f29 : Addr} {od29 an29 : Option Addr} {sl29 : Array (Option Value)} {oc29 kV29 dc29 pm29 cd29 ct29 : Value}
    (a29 : PySem.W.nsIn K mainGlobals "_law_line" = some (some (.ref f29))) (l29 : K.lookup f29 = some ⟨oc29, od29, .func (PySem.W.fnOf "_law_line" "_law_line" (defArgs s_law_line) (defBody s_law_line) (defScope s_law_line) .none kV29 dc29 pm29 an29 cd29 ct29), sl29⟩) (c29 : PySem.W.codeIn K cd29 "_law_line" = true) (k29 : PySem.W.keepIn K (.ref f29) = true)
    {f30 : Addr} {od30 an30 : Option Addr} {sl30 : Array (Option Value)} {oc30 kV30 dc30 pm30 cd30 ct30 : Value}
    (a30 : PySem.W.nsIn K mainGlobals "_law_row" = some (some (.ref f30))) (l30 : K.lookup f30 = some ⟨oc30, od30, .func (PySem.W.fnOf "_law_row" "_law_row" (defArgs s_law_row) (defBody s_law_row) (defScope s_law_row) .none kV30 dc30 pm30 an30 cd30 ct30), sl30⟩) (c30 : PySem.W.codeIn K cd30 "_law_row" = true) (k30 : PySem.W.keepIn K (.ref f30) = true)
    {f31 : Addr} {od31 an31 : Option Addr} {sl31 : Array (Option Value)} {oc31 kV31 dc31 pm31 cd31 ct31 : Value}
    (a31 : PySem.W.nsIn K mainGlobals "_law_right" = some (some (.ref f31))) (l31 : K.lookup f31 = some ⟨oc31, od31, .func (PySem.W.fnOf "_law_right" "_law_right" (defArgs s_law_right) (defBody s_law_right) (defScope s_law_right) .none kV31 dc31 pm31 an31 cd31 ct31), sl31⟩) (c31 : PySem.W.codeIn K cd31 "_law_right" = true) (k31 : PySem.W.keepIn K (.ref f31) = true)
    {f32 : Addr} {od32 an32 : Option Addr} {sl32 : Array (Option Value)} {oc32 kV32 dc32 pm32 cd32 ct32 : Value}
    (a32 : PySem.W.nsIn K mainGlobals "law" = some (some (.ref f32))) (l32 : K.lookup f32 = some ⟨oc32, od32, .func (PySem.W.fnOf "law" "law" (defArgs s_law) (defBody s_law) (defScope s_law) .none kV32 dc32 pm32 an32 cd32 ct32), sl32⟩) (c32 : PySem.W.codeIn K cd32 "law" = true) (k32 : PySem.W.keepIn K (.ref f32) = true)
    {R_ROOT : Addr} {u0_ROOT u1_ROOT u2_ROOT : Tok} {rd_ROOT : Option Addr} {rn_ROOT : Nat} {rs_ROOT : Array (Option Value)} (tg_ROOT : PySem.W.nsIn K mainGlobals "ROOT" = some (some (.ref R_ROOT))) (tl_ROOT : K.lookup R_ROOT = some ⟨.type "tuple", rd_ROOT, .seq #[.int 0 u0_ROOT, .int 65536 u1_ROOT, .int 16 u2_ROOT] rn_ROOT, rs_ROOT⟩)
    {K_LineModel : Addr} (og_LineModel : PySem.W.nsIn K mainGlobals "LineModel" = some (some (.ref K_LineModel))) (o1_LineModel : PySem.W.plainGet K K_LineModel Str.empty = true) (o2_LineModel : PySem.W.hasDictIn K K_LineModel = true) (o3_LineModel : PySem.W.plainOver K K_LineModel = true) (o4_LineModel : PySem.W.findIn K (.ref K_LineModel) "__setattr__" = some (some (.builtin "object.__setattr__"))) (o5_LineModel : PySem.W.makesIn K K_LineModel = true) (o6_LineModel : PySem.W.keepIn K (.ref K_LineModel) = true)
    {K_Ranger : Addr} (og_Ranger : PySem.W.nsIn K mainGlobals "Ranger" = some (some (.ref K_Ranger))) (o1_Ranger : PySem.W.plainGet K K_Ranger Str.empty = true) (o2_Ranger : PySem.W.hasDictIn K K_Ranger = true) (o3_Ranger : PySem.W.plainOver K K_Ranger = true) (o4_Ranger : PySem.W.findIn K (.ref K_Ranger) "__setattr__" = some (some (.builtin "object.__setattr__"))) (o5_Ranger : PySem.W.makesIn K K_Ranger = true) (o6_Ranger : PySem.W.keepIn K (.ref K_Ranger) = true)
    {K_Table : Addr} (og_Table : PySem.W.nsIn K mainGlobals "Table" = some (some (.ref K_Table))) (o1_Table : PySem.W.plainGet K K_Table Str.empty = true) (o2_Table : PySem.W.hasDictIn K K_Table = true) (o3_Table : PySem.W.plainOver K K_Table = true) (o4_Table : PySem.W.findIn K (.ref K_Table) "__setattr__" = some (some (.builtin "object.__setattr__"))) (o5_Table : PySem.W.makesIn K K_Table = true) (o6_Table : PySem.W.keepIn K (.ref K_Table) = true)
    (on_LineModel__around : PySem.W.findIn K (.ref K_LineModel) "_around" = some none)
    (on_LineModel__begun : PySem.W.findIn K (.ref K_LineModel) "_begun" = some none)
    (on_LineModel__last_pass : PySem.W.findIn K (.ref K_LineModel) "_last_pass" = some none)
    (on_LineModel__plane : PySem.W.findIn K (.ref K_LineModel) "_plane" = some none)
    (on_LineModel__rect : PySem.W.findIn K (.ref K_LineModel) "_rect" = some none)
    (on_LineModel__signs : PySem.W.findIn K (.ref K_LineModel) "_signs" = some none)
    (on_LineModel__sizes : PySem.W.findIn K (.ref K_LineModel) "_sizes" = some none)
    (on_LineModel__spot : PySem.W.findIn K (.ref K_LineModel) "_spot" = some none)
    (on_LineModel__tables : PySem.W.findIn K (.ref K_LineModel) "_tables" = some none)
    (on_LineModel__told : PySem.W.findIn K (.ref K_LineModel) "_told" = some none)
    (on_LineModel__turns : PySem.W.findIn K (.ref K_LineModel) "_turns" = some none)
    (on_Ranger__node : PySem.W.findIn K (.ref K_Ranger) "_node" = some none)
    (on_Table__counts : PySem.W.findIn K (.ref K_Table) "_counts" = some none)
    (pa6 : PySem.W.findIn K (.ref K_Ranger) "__init__" = some (some (.ref f6))) (pb6 : PySem.W.isFn K (.ref f6) = true)
    (pa7 : PySem.W.findIn K (.ref K_Ranger) "take" = some (some (.ref f7))) (pb7 : PySem.W.isFn K (.ref f7) = true)
    (pa8 : PySem.W.findIn K (.ref K_Ranger) "end" = some (some (.ref f8))) (pb8 : PySem.W.isFn K (.ref f8) = true)
    (pa13 : PySem.W.findIn K (.ref K_Table) "__init__" = some (some (.ref f13))) (pb13 : PySem.W.isFn K (.ref f13) = true)
    {pp14 : Addr} {pr14 : List Value} (pa14 : PySem.W.findIn K (.ref K_Table) "counts" = some (some (.ref pp14))) (pb14 : PySem.W.specialIn K (.ref pp14) "__get__" = some (some (.builtin "property.__get__"))) (pc14 : PySem.W.takesIn K (.ref pp14) = some true) (pd14 : PySem.W.recIn K pp14 "property" = some (.ref f14 :: pr14))
    (pa15 : PySem.W.findIn K (.ref K_Table) "learn" = some (some (.ref f15))) (pb15 : PySem.W.isFn K (.ref f15) = true)
    (pa18 : PySem.W.findIn K (.ref K_LineModel) "__init__" = some (some (.ref f18))) (pb18 : PySem.W.isFn K (.ref f18) = true)
    (pa19 : PySem.W.findIn K (.ref K_LineModel) "_is_near" = some (some (.ref f19))) (pb19 : PySem.W.isFn K (.ref f19) = true)
    (pa20 : PySem.W.findIn K (.ref K_LineModel) "_turns_of_plane" = some (some (.ref f20))) (pb20 : PySem.W.isFn K (.ref f20) = true)
    (pa21 : PySem.W.findIn K (.ref K_LineModel) "_table_number" = some (some (.ref f21))) (pb21 : PySem.W.isFn K (.ref f21) = true)
    (pa22 : PySem.W.findIn K (.ref K_LineModel) "wanted" = some (some (.ref f22))) (pb22 : PySem.W.isFn K (.ref f22) = true)
    (pa23 : PySem.W.findIn K (.ref K_LineModel) "wanted_counts" = some (some (.ref f23))) (pb23 : PySem.W.isFn K (.ref f23) = true)
    (pa24 : PySem.W.findIn K (.ref K_LineModel) "take" = some (some (.ref f24))) (pb24 : PySem.W.isFn K (.ref f24) = true)
    (pa25 : PySem.W.findIn K (.ref K_LineModel) "_go_on" = some (some (.ref f25))) (pb25 : PySem.W.isFn K (.ref f25) = true)
    (z_any : PySem.W.nsIn K mainGlobals "any" = some none)
    (z_bool : PySem.W.nsIn K mainGlobals "bool" = some none)
    (z_int : PySem.W.nsIn K mainGlobals "int" = some none)
    (z_isinstance : PySem.W.nsIn K mainGlobals "isinstance" = some none)
    (z_len : PySem.W.nsIn K mainGlobals "len" = some none)
    (z_list : PySem.W.nsIn K mainGlobals "list" = some none)
    (z_max : PySem.W.nsIn K mainGlobals "max" = some none)
    (z_min : PySem.W.nsIn K mainGlobals "min" = some none)
    (z_range : PySem.W.nsIn K mainGlobals "range" = some none)
    (z_sum : PySem.W.nsIn K mainGlobals "sum" = some none)
    (z_tuple : PySem.W.nsIn K mainGlobals "tuple" = some none)
    {t_FAR : Tok} (e_FAR : PySem.W.nsIn K mainGlobals "FAR" = some (some (.int (2) t_FAR)))
    {t_GAIN : Tok} (e_GAIN : PySem.W.nsIn K mainGlobals "GAIN" = some (some (.int (2) t_GAIN)))
    {t_HALF_WIDTH : Tok} (e_HALF_WIDTH : PySem.W.nsIn K mainGlobals "HALF_WIDTH" = some (some (.int (32768) t_HALF_WIDTH)))
    {t_LEAST_WIDTH : Tok} (e_LEAST_WIDTH : PySem.W.nsIn K mainGlobals "LEAST_WIDTH" = some (some (.int (65536) t_LEAST_WIDTH)))
    {t_MOST_NEAR : Tok} (e_MOST_NEAR : PySem.W.nsIn K mainGlobals "MOST_NEAR" = some (some (.int (2) t_MOST_NEAR)))
    {t_MOST_PLANES : Tok} (e_MOST_PLANES : PySem.W.nsIn K mainGlobals "MOST_PLANES" = some (some (.int (20) t_MOST_PLANES)))
    {t_MOST_TOTAL : Tok} (e_MOST_TOTAL : PySem.W.nsIn K mainGlobals "MOST_TOTAL" = some (some (.int (64) t_MOST_TOTAL)))
    {t_NEAR : Tok} (e_NEAR : PySem.W.nsIn K mainGlobals "NEAR" = some (some (.int (0) t_NEAR)))
    {t_OLD : Tok} (e_OLD : PySem.W.nsIn K mainGlobals "OLD" = some (some (.int (4) t_OLD)))
    {t_ROOT_SCALE : Tok} (e_ROOT_SCALE : PySem.W.nsIn K mainGlobals "ROOT_SCALE" = some (some (.int (16) t_ROOT_SCALE)))
    {t_SHARPER : Tok} (e_SHARPER : PySem.W.nsIn K mainGlobals "SHARPER" = some (some (.int (1) t_SHARPER)))
    {t_YOUNG : Tok} (e_YOUNG : PySem.W.nsIn K mainGlobals "YOUNG" = some (some (.int (3) t_YOUNG)))
    {C_BadBits : Addr} (g_BadBits : PySem.W.nsIn K mainGlobals "BadBits" = some (some (.ref C_BadBits))) (x0_BadBits : PySem.W.excIn K C_BadBits [.type "ValueError", .type "Exception", .type "BaseException", .type "object"] "ValueError.__new__" = true)
    (x1_BadBits : PySem.W.keepIn K (.ref C_BadBits) = true) (x2_BadBits : PySem.W.subIn K (.ref C_BadBits) (.type "BaseException") = some true) (x3_BadBits : PySem.W.typeIn K (.ref C_BadBits) = some (.type "type"))
    (x4_BadBits : PySem.W.findIn K (.ref C_BadBits) "__getattribute__" = some (some (.builtin "BaseException.__getattribute__"))) (x5_BadBits : PySem.W.findIn K (.ref C_BadBits) "__getattr__" = some none) (x6_BadBits : PySem.W.hasDictIn K C_BadBits = true)
    (x7_BadBits : PySem.W.findIn K (.ref C_BadBits) "__class__" = some (some (.builtin "object.__class__"))) (x8_BadBits : PySem.W.specialIn K (.builtin "object.__class__") "__get__" = some (some (.builtin "getset_descriptor.__get__"))) (x9_BadBits : PySem.W.takesIn K (.builtin "object.__class__") = some true) (xa_BadBits : PySem.W.mroIn K C_BadBits (.type "object") = some true)
    {C_BadGrid : Addr} (g_BadGrid : PySem.W.nsIn K mainGlobals "BadGrid" = some (some (.ref C_BadGrid))) (x0_BadGrid : PySem.W.excIn K C_BadGrid [.type "ValueError", .type "Exception", .type "BaseException", .type "object"] "ValueError.__new__" = true)
    (x1_BadGrid : PySem.W.keepIn K (.ref C_BadGrid) = true) (x2_BadGrid : PySem.W.subIn K (.ref C_BadGrid) (.type "BaseException") = some true) (x3_BadGrid : PySem.W.typeIn K (.ref C_BadGrid) = some (.type "type"))
    (x4_BadGrid : PySem.W.findIn K (.ref C_BadGrid) "__getattribute__" = some (some (.builtin "BaseException.__getattribute__"))) (x5_BadGrid : PySem.W.findIn K (.ref C_BadGrid) "__getattr__" = some none) (x6_BadGrid : PySem.W.hasDictIn K C_BadGrid = true)
    (x7_BadGrid : PySem.W.findIn K (.ref C_BadGrid) "__class__" = some (some (.builtin "object.__class__"))) (x8_BadGrid : PySem.W.specialIn K (.builtin "object.__class__") "__get__" = some (some (.builtin "getset_descriptor.__get__"))) (x9_BadGrid : PySem.W.takesIn K (.builtin "object.__class__") = some true) (xa_BadGrid : PySem.W.mroIn K C_BadGrid (.type "object") = some true)
    {C_Outside : Addr} (g_Outside : PySem.W.nsIn K mainGlobals "Outside" = some (some (.ref C_Outside))) (x0_Outside : PySem.W.excIn K C_Outside [.type "ValueError", .type "Exception", .type "BaseException", .type "object"] "ValueError.__new__" = true)
    (x1_Outside : PySem.W.keepIn K (.ref C_Outside) = true) (x2_Outside : PySem.W.subIn K (.ref C_Outside) (.type "BaseException") = some true) (x3_Outside : PySem.W.typeIn K (.ref C_Outside) = some (.type "type"))
    (x4_Outside : PySem.W.findIn K (.ref C_Outside) "__getattribute__" = some (some (.builtin "BaseException.__getattribute__"))) (x5_Outside : PySem.W.findIn K (.ref C_Outside) "__getattr__" = some none) (x6_Outside : PySem.W.hasDictIn K C_Outside = true)
    (x7_Outside : PySem.W.findIn K (.ref C_Outside) "__class__" = some (some (.builtin "object.__class__"))) (x8_Outside : PySem.W.specialIn K (.builtin "object.__class__") "__get__" = some (some (.builtin "getset_descriptor.__get__"))) (x9_Outside : PySem.W.takesIn K (.builtin "object.__class__") = some true) (xa_Outside : PySem.W.mroIn K C_Outside (.type "object") = some true)
    (s_BadBits_BadBits : PySem.W.subIn K (.ref C_BadBits) (.ref C_BadBits) = some true)
    (s_BadBits_BadGrid : PySem.W.subIn K (.ref C_BadBits) (.ref C_BadGrid) = some false)
    (s_BadBits_Outside : PySem.W.subIn K (.ref C_BadBits) (.ref C_Outside) = some false)
    (s_BadGrid_BadBits : PySem.W.subIn K (.ref C_BadGrid) (.ref C_BadBits) = some false)
    (s_BadGrid_BadGrid : PySem.W.subIn K (.ref C_BadGrid) (.ref C_BadGrid) = some true)
    (s_BadGrid_Outside : PySem.W.subIn K (.ref C_BadGrid) (.ref C_Outside) = some false)
    (s_Outside_BadBits : PySem.W.subIn K (.ref C_Outside) (.ref C_BadBits) = some false)
    (s_Outside_BadGrid : PySem.W.subIn K (.ref C_Outside) (.ref C_BadGrid) = some false)
    (s_Outside_Outside : PySem.W.subIn K (.ref C_Outside) (.ref C_Outside) = some true)
    : ∃ fd : FuncData, (∀ (s : Shared) (v : Value), BindsTo s fd ⟨[v], []⟩ [("_law_script", v)]) ∧ ∀ base : Heap, K.In base → base.Ns mainGlobals mg → FnOk l.prog w K mg base (L2.CX l.prog w) 7 fa fd ["_law_script"] (sp_law K mg) := by
  have e := hfa.symm.trans (PySem.W.mg_of X G a32)
  cases e
  have e_BadBits := exA_of (PySem.W.mg_of X G g_BadBits)
  have e_BadGrid := exA_of (PySem.W.mg_of X G g_BadGrid)
  have e_Outside := exA_of (PySem.W.mg_of X G g_Outside)
  have eo_LineModel := exA_of (PySem.W.mg_of X G og_LineModel)
  have eo_Ranger := exA_of (PySem.W.mg_of X G og_Ranger)
  have eo_Table := exA_of (PySem.W.mg_of X G og_Table)
  have Z : Zs K mg := ⟨PySem.W.mg_none_of X G z_any, PySem.W.mg_none_of X G z_bool, PySem.W.mg_none_of X G z_int, PySem.W.mg_none_of X G z_isinstance, PySem.W.mg_none_of X G z_len, PySem.W.mg_none_of X G z_list, PySem.W.mg_none_of X G z_max, PySem.W.mg_none_of X G z_min, PySem.W.mg_none_of X G z_range, PySem.W.mg_none_of X G z_sum, PySem.W.mg_none_of X G z_tuple, ⟨_, PySem.W.mg_of X G e_FAR⟩, ⟨_, PySem.W.mg_of X G e_GAIN⟩, ⟨_, PySem.W.mg_of X G e_HALF_WIDTH⟩, ⟨_, PySem.W.mg_of X G e_LEAST_WIDTH⟩, ⟨_, PySem.W.mg_of X G e_MOST_NEAR⟩, ⟨_, PySem.W.mg_of X G e_MOST_PLANES⟩, ⟨_, PySem.W.mg_of X G e_MOST_TOTAL⟩, ⟨_, PySem.W.mg_of X G e_NEAR⟩, ⟨_, PySem.W.mg_of X G e_OLD⟩, ⟨_, PySem.W.mg_of X G e_ROOT_SCALE⟩, ⟨_, PySem.W.mg_of X G e_SHARPER⟩, ⟨_, PySem.W.mg_of X G e_YOUNG⟩, ExF.mk' (PySem.W.mg_of X G g_BadBits) x0_BadBits x1_BadBits x2_BadBits x3_BadBits x4_BadBits x5_BadBits x6_BadBits x7_BadBits x8_BadBits x9_BadBits xa_BadBits, ExF.mk' (PySem.W.mg_of X G g_BadGrid) x0_BadGrid x1_BadGrid x2_BadGrid x3_BadGrid x4_BadGrid x5_BadGrid x6_BadGrid x7_BadGrid x8_BadGrid x9_BadGrid xa_BadGrid, ExF.mk' (PySem.W.mg_of X G g_Outside) x0_Outside x1_Outside x2_Outside x3_Outside x4_Outside x5_Outside x6_Outside x7_Outside x8_Outside x9_Outside xa_Outside, (by rw [e_BadBits]; exact s_BadBits_BadBits), (by rw [e_BadBits]; exact kit_own x6_BadBits x3_BadBits s_BadBits_BadBits s_BadBits_BadBits), (by rw [e_BadBits, e_BadGrid]; exact s_BadBits_BadGrid), (by rw [e_BadBits, e_BadGrid]; exact kit_own x6_BadGrid x3_BadGrid s_BadBits_BadGrid s_BadBits_BadBits), (by rw [e_BadBits, e_Outside]; exact s_BadBits_Outside), (by rw [e_BadBits, e_Outside]; exact kit_own x6_Outside x3_Outside s_BadBits_Outside s_BadBits_BadBits), (by rw [e_BadGrid, e_BadBits]; exact s_BadGrid_BadBits), (by rw [e_BadGrid, e_BadBits]; exact kit_own x6_BadBits x3_BadBits s_BadGrid_BadBits s_BadGrid_BadGrid), (by rw [e_BadGrid]; exact s_BadGrid_BadGrid), (by rw [e_BadGrid]; exact kit_own x6_BadGrid x3_BadGrid s_BadGrid_BadGrid s_BadGrid_BadGrid), (by rw [e_BadGrid, e_Outside]; exact s_BadGrid_Outside), (by rw [e_BadGrid, e_Outside]; exact kit_own x6_Outside x3_Outside s_BadGrid_Outside s_BadGrid_BadGrid), (by rw [e_Outside, e_BadBits]; exact s_Outside_BadBits), (by rw [e_Outside, e_BadBits]; exact kit_own x6_BadBits x3_BadBits s_Outside_BadBits s_Outside_Outside), (by rw [e_Outside, e_BadGrid]; exact s_Outside_BadGrid), (by rw [e_Outside, e_BadGrid]; exact kit_own x6_BadGrid x3_BadGrid s_Outside_BadGrid s_Outside_Outside), (by rw [e_Outside]; exact s_Outside_Outside), (by rw [e_Outside]; exact kit_own x6_Outside x3_Outside s_Outside_Outside s_Outside_Outside), CTup.mk' (PySem.W.mg_of X G tg_ROOT) (fun _ => SqT.ofK tl_ROOT rfl rfl (by show 3 ≤ sizeLine; decide) (.cons ⟨_, rfl⟩ (.cons ⟨_, rfl⟩ (.cons ⟨_, rfl⟩ (.nil))))), ClF.mk' (PySem.W.mg_of X G og_LineModel) ⟨o1_LineModel, o2_LineModel, o3_LineModel, o4_LineModel⟩, ClF.mk' (PySem.W.mg_of X G og_Ranger) ⟨o1_Ranger, o2_Ranger, o3_Ranger, o4_Ranger⟩, ClF.mk' (PySem.W.mg_of X G og_Table) ⟨o1_Table, o2_Table, o3_Table, o4_Table⟩, (by rw [eo_LineModel]; exact on_LineModel__around), (by rw [eo_LineModel]; exact on_LineModel__begun), (by rw [eo_LineModel]; exact on_LineModel__last_pass), (by rw [eo_LineModel]; exact on_LineModel__plane), (by rw [eo_LineModel]; exact on_LineModel__rect), (by rw [eo_LineModel]; exact on_LineModel__signs), (by rw [eo_LineModel]; exact on_LineModel__sizes), (by rw [eo_LineModel]; exact on_LineModel__spot), (by rw [eo_LineModel]; exact on_LineModel__tables), (by rw [eo_LineModel]; exact on_LineModel__told), (by rw [eo_LineModel]; exact on_LineModel__turns), (by rw [eo_Ranger]; exact on_Ranger__node), (by rw [eo_Table]; exact on_Table__counts)⟩
  have F0 := fun_mk (st := s_is_bit) l0 c0 k0
  have F1 := fun_mk (st := s_check_bits) l1 c1 k1
  have F2 := fun_mk (st := s_number_of) l2 c2 k2
  have F3 := fun_mk (st := s_fixed) l3 c3 k3
  have F4 := fun_mk (st := s_next_node) l4 c4 k4
  have F5 := fun_mk (st := s_end_of) l5 c5 k5
  have F6 := fun_mk (st := s_Ranger___init__) l6 c6 k6
  have F7 := fun_mk (st := s_Ranger_take) l7 c7 k7
  have F8 := fun_mk (st := s_Ranger_end) l8 c8 k8
  have F9 := fun_mk (st := s_holds) l9 c9 k9
  have F10 := fun_mk (st := s_told_child) l10 c10 k10
  have F11 := fun_mk (st := s_told_letters) l11 c11 k11
  have F12 := fun_mk (st := s_want_rect) l12 c12 k12
  have F13 := fun_mk (st := s_Table___init__) l13 c13 k13
  have F14 := fun_mk (st := s_Table_counts) l14 c14 k14
  have F15 := fun_mk (st := s_Table_learn) l15 c15 k15
  have F16 := fun_mk (st := s_want_planes) l16 c16 k16
  have F17 := fun_mk (st := s_neighbours_of) l17 c17 k17
  have F18 := fun_mk (st := s_LineModel___init__) l18 c18 k18
  have F19 := fun_mk (st := s_LineModel__is_near) l19 c19 k19
  have F20 := fun_mk (st := s_LineModel__turns_of_plane) l20 c20 k20
  have F21 := fun_mk (st := s_LineModel__table_number) l21 c21 k21
  have F22 := fun_mk (st := s_LineModel_wanted) l22 c22 k22
  have F23 := fun_mk (st := s_LineModel_wanted_counts) l23 c23 k23
  have F24 := fun_mk (st := s_LineModel_take) l24 c24 k24
  have F25 := fun_mk (st := s_LineModel__go_on) l25 c25 k25
  have F26 := fun_mk (st := s_law_pool) l26 c26 k26
  have F27 := fun_mk (st := s_law_take) l27 c27 k27
  have F28 := fun_mk (st := s_law_one) l28 c28 k28
  have F29 := fun_mk (st := s_law_line) l29 c29 k29
  have F30 := fun_mk (st := s_law_row) l30 c30 k30
  have F31 := fun_mk (st := s_law_right) l31 c31 k31
  have F32 := fun_mk (st := s_law) l32 c32 k32
  refine ⟨PySem.W.fnOf "law" "law" (defArgs s_law) (defBody s_law) (defScope s_law) .none kV32 dc32 pm32 an32 cd32 ct32, fun s v => .of_eq rfl, fun base _ _ => ?_⟩
  have R_LineModel__table_number : Ok_LineModel__table_number l.prog w K mg base := ⟨_, _, okx_LineModel__table_number Z F21 , by rw [eo_LineModel]; exact ⟨pa21, pb21, k21⟩⟩
  have R_LineModel_wanted : Ok_LineModel_wanted l.prog w K mg base := ⟨_, _, okx_LineModel_wanted Z F22 R_LineModel__table_number, by rw [eo_LineModel]; exact ⟨pa22, pb22, k22⟩⟩
  have R_LineModel__is_near : Ok_LineModel__is_near l.prog w K mg base := ⟨_, _, okx_LineModel__is_near Z F19 , by rw [eo_LineModel]; exact ⟨pa19, pb19, k19⟩⟩
  have R_LineModel__turns_of_plane : Ok_LineModel__turns_of_plane l.prog w K mg base := ⟨_, _, okx_LineModel__turns_of_plane Z F20 R_LineModel__is_near, by rw [eo_LineModel]; exact ⟨pa20, pb20, k20⟩⟩
  have R_LineModel__go_on : Ok_LineModel__go_on l.prog w K mg base := ⟨_, _, okx_LineModel__go_on Z F25 R_LineModel__turns_of_plane, by rw [eo_LineModel]; exact ⟨pa25, pb25, k25⟩⟩
  have R_Table_learn : Ok_Table_learn l.prog w K mg base := ⟨_, _, okx_Table_learn Z F15 , by rw [eo_Table]; exact ⟨pa15, pb15, k15⟩⟩
  have R_LineModel_take : Ok_LineModel_take l.prog w K mg base := ⟨_, _, okx_LineModel_take Z F24 R_LineModel__go_on R_Table_learn R_LineModel_wanted, by rw [eo_LineModel]; exact ⟨pa24, pb24, k24⟩⟩
  have R_holds : Ok_holds l.prog w K mg base := ⟨_, _, okx_holds Z F9 (PySem.W.mg_of X G a9) ⟩
  have R_next_node : Ok_next_node l.prog w K mg base := ⟨_, _, okx_next_node Z F4 (PySem.W.mg_of X G a4) ⟩
  have R_told_child : Ok_told_child l.prog w K mg base := ⟨_, _, okx_told_child Z F10 (PySem.W.mg_of X G a10) R_holds R_next_node⟩
  have R_Table_counts : Ok_Table_counts l.prog w K mg base := ⟨_, _, _, okx_Table_counts Z F14 , by rw [eo_Table]; exact ⟨pa14, pb14, pc14, ⟨_, pd14⟩⟩⟩
  have R_LineModel_wanted_counts : Ok_LineModel_wanted_counts l.prog w K mg base := ⟨_, _, okx_LineModel_wanted_counts Z F23 R_Table_counts R_LineModel_wanted, by rw [eo_LineModel]; exact ⟨pa23, pb23, k23⟩⟩
  have R_number_of : Ok_number_of l.prog w K mg base := ⟨_, _, okx_number_of Z F2 (PySem.W.mg_of X G a2) ⟩
  have R_is_bit : Ok_is_bit l.prog w K mg base := ⟨_, _, okx_is_bit Z F0 (PySem.W.mg_of X G a0) ⟩
  have R_check_bits : Ok_check_bits l.prog w K mg base := ⟨_, _, okx_check_bits Z F1 (PySem.W.mg_of X G a1) R_is_bit⟩
  have R_told_letters : Ok_told_letters l.prog w K mg base := ⟨_, _, okx_told_letters Z F11 (PySem.W.mg_of X G a11) R_LineModel_wanted R_LineModel_take R_told_child R_LineModel_wanted_counts R_number_of R_check_bits⟩
  have R_Table___init__ : Ok_Table___init__ l.prog w K mg base := ⟨_, _, okx_Table___init__ Z F13 , by rw [eo_Table]; exact ⟨o5_Table, pa13, pb13, o6_Table⟩⟩
  have R_neighbours_of : Ok_neighbours_of l.prog w K mg base := ⟨_, _, okx_neighbours_of Z F17 (PySem.W.mg_of X G a17) ⟩
  have R_want_planes : Ok_want_planes l.prog w K mg base := ⟨_, _, okx_want_planes Z F16 (PySem.W.mg_of X G a16) ⟩
  have R_want_rect : Ok_want_rect l.prog w K mg base := ⟨_, _, okx_want_rect Z F12 (PySem.W.mg_of X G a12) ⟩
  have R_LineModel___init__ : Ok_LineModel___init__ l.prog w K mg base := ⟨_, _, okx_LineModel___init__ Z F18 R_LineModel__turns_of_plane R_Table___init__ R_neighbours_of R_want_planes R_want_rect, by rw [eo_LineModel]; exact ⟨o5_LineModel, pa18, pb18, o6_LineModel⟩⟩
  have R_law_take : Ok_law_take l.prog w K mg base := ⟨_, _, okx_law_take Z F27 (PySem.W.mg_of X G a27) ⟩
  have R_fixed : Ok_fixed l.prog w K mg base := ⟨_, _, okx_fixed Z F3 (PySem.W.mg_of X G a3) ⟩
  have R_end_of : Ok_end_of l.prog w K mg base := ⟨_, _, okx_end_of Z F5 (PySem.W.mg_of X G a5) R_fixed⟩
  have R_Ranger_end : Ok_Ranger_end l.prog w K mg base := ⟨_, _, okx_Ranger_end Z F8 R_end_of, by rw [eo_Ranger]; exact ⟨pa8, pb8, k8⟩⟩
  have R_Ranger_take : Ok_Ranger_take l.prog w K mg base := ⟨_, _, okx_Ranger_take Z F7 R_next_node, by rw [eo_Ranger]; exact ⟨pa7, pb7, k7⟩⟩
  have R_Ranger___init__ : Ok_Ranger___init__ l.prog w K mg base := ⟨_, _, okx_Ranger___init__ Z F6 , by rw [eo_Ranger]; exact ⟨o5_Ranger, pa6, pb6, o6_Ranger⟩⟩
  have R_law_row : Ok_law_row l.prog w K mg base := ⟨_, _, okx_law_row Z F30 (PySem.W.mg_of X G a30) R_Ranger_end R_LineModel_take R_Ranger_take R_LineModel_wanted_counts R_law_take R_LineModel_wanted R_Ranger___init__ R_LineModel___init__⟩
  have R_law_one : Ok_law_one l.prog w K mg base := ⟨_, _, okx_law_one Z F28 (PySem.W.mg_of X G a28) R_law_take⟩
  have R_law_line : Ok_law_line l.prog w K mg base := ⟨_, _, okx_law_line Z F29 (PySem.W.mg_of X G a29) R_law_take R_law_one⟩
  have R_law_right : Ok_law_right l.prog w K mg base := ⟨_, _, okx_law_right Z F31 (PySem.W.mg_of X G a31) R_told_letters R_LineModel___init__ R_law_take R_LineModel_wanted R_law_row R_law_line⟩
  have R_law_pool : Ok_law_pool l.prog w K mg base := ⟨_, _, okx_law_pool Z F26 (PySem.W.mg_of X G a26) ⟩
  exact (okx_law (P := l.prog) (w := w) (base := base) Z F32 (PySem.W.mg_of X G a32) R_law_right R_law_pool).G
theorem walk {l : PySem.W.OpenLaw} {q : Program} {loose : List Str} {XP : (Str → Option Value) → Heap → Prop} {YP : World → Heap → Prop} {d : DefRec} {K : Params → PySem.W.Frag} (hn : l.most = some 63) (hdf : d.params.defaults = [])
    (hY : ∀ (w : World) (h : Heap), YP w h → (K w.params).In h)
    (F : ∀ (w : World) (mg : Str → Option Value) (fa : Addr) (h : Heap), (K w.params).In h → h.Ns mainGlobals mg → mg d.name = some (.ref fa) →
      ∃ fd : FuncData, (∀ (s : Shared) (u : Value), BindsTo s fd ⟨[u], []⟩ [("_law_script", u)]) ∧ ∀ base : Heap, (K w.params).In base → base.Ns mainGlobals mg → FnOk l.prog w (K w.params) mg base (L2.CX l.prog w) 7 fa fd ["_law_script"] (sp_law (K w.params) mg)) :
    PySem.W.WalkO q loose XP YP l.row.toRowW d [] (fun f vs => PySem.call f vs) :=
  L2.walk_of (n := 63) (k := 7) (x := "_law_script") (CX := fun w => L2.CX l.prog w) (sp := fun w => sp_lawK (K w.params)) hn (by decide) hdf ⟨rfl, by decide, by decide⟩ hY F (fun _ _ _ ns hl _ hS => law_start hl hS) fun _ _ _ _ _ z => cx_none z
end NB
open PySem PySem.W PyProof.Rows in
set_option maxRecDepth 100000 in
set_option maxHeartbeats 0 in
theorem PySem.Challenge.cw_narrowingbits_k11_told_grows_with_bits_holds : PySem.Challenge.rw_narrowingbits_k11_told_grows_with_bits.Holds := by
  w_on; o_law; k_head; (case hw => w_witness2)
  k_fill
  refine NB.walk (l := PySem.Challenge.rw_narrowingbits_k11_told_grows_with_bits) rfl rfl (fun w h Y => PySem.W.kIn_of Y) ?F
  case F =>
    intro w mg fa h KX G hmg
    refine' NB.all_mk KX G hmg ?a0 ?l0 ?c0 ?k0 ?a1 ?l1 ?c1 ?k1 ?a2 ?l2 ?c2 ?k2 ?a3 ?l3 ?c3 ?k3 ?a4 ?l4 ?c4 ?k4 ?a5 ?l5 ?c5 ?k5 ?l6 ?c6 ?k6 ?l7 ?c7 ?k7 ?l8 ?c8 ?k8 ?a9 ?l9 ?c9 ?k9 ?a10 ?l10 ?c10 ?k10 ?a11 ?l11 ?c11 ?k11 ?a12 ?l12 ?c12 ?k12 ?l13 ?c13 ?k13 ?l14 ?c14 ?k14 ?l15 ?c15 ?k15 ?a16 ?l16 ?c16 ?k16 ?a17 ?l17 ?c17 ?k17 ?l18 ?c18 ?k18 ?l19 ?c19 ?k19 ?l20 ?c20 ?k20 ?l21 ?c21 ?k21 ?l22 ?c22 ?k22 ?l23 ?c23 ?k23 ?l24 ?c24 ?k24 ?l25 ?c25 ?k25 ?a26 ?l26 ?c26 ?k26 ?a27 ?l27 ?c27 ?k27 ?a28 ?l28 ?c28 ?k28 ?a29 ?l29 ?c29 ?k29 ?a30 ?l30 ?c30 ?k30 ?a31 ?l31 ?c31 ?k31 ?a32 ?l32 ?c32 ?k32 ?tg_ROOT ?tl_ROOT ?og_LineModel ?o1_LineModel ?o2_LineModel ?o3_LineModel ?o4_LineModel ?o5_LineModel ?o6_LineModel ?og_Ranger ?o1_Ranger ?o2_Ranger ?o3_Ranger ?o4_Ranger ?o5_Ranger ?o6_Ranger ?og_Table ?o1_Table ?o2_Table ?o3_Table ?o4_Table ?o5_Table ?o6_Table ?on_LineModel__around ?on_LineModel__begun ?on_LineModel__last_pass ?on_LineModel__plane ?on_LineModel__rect ?on_LineModel__signs ?on_LineModel__sizes ?on_LineModel__spot ?on_LineModel__tables ?on_LineModel__told ?on_LineModel__turns ?on_Ranger__node ?on_Table__counts ?pa6 ?pb6 ?pa7 ?pb7 ?pa8 ?pb8 ?pa13 ?pb13 ?pa14 ?pb14 ?pc14 ?pd14 ?pa15 ?pb15 ?pa18 ?pb18 ?pa19 ?pb19 ?pa20 ?pb20 ?pa21 ?pb21 ?pa22 ?pb22 ?pa23 ?pb23 ?pa24 ?pb24 ?pa25 ?pb25 ?z_any ?z_bool ?z_int ?z_isinstance ?z_len ?z_list ?z_max ?z_min ?z_range ?z_sum ?z_tuple ?e_FAR ?e_GAIN ?e_HALF_WIDTH ?e_LEAST_WIDTH ?e_MOST_NEAR ?e_MOST_PLANES ?e_MOST_TOTAL ?e_NEAR ?e_OLD ?e_ROOT_SCALE ?e_SHARPER ?e_YOUNG ?g_BadBits ?x0_BadBits ?x1_BadBits ?x2_BadBits ?x3_BadBits ?x4_BadBits ?x5_BadBits ?x6_BadBits ?x7_BadBits ?x8_BadBits ?x9_BadBits ?xa_BadBits ?g_BadGrid ?x0_BadGrid ?x1_BadGrid ?x2_BadGrid ?x3_BadGrid ?x4_BadGrid ?x5_BadGrid ?x6_BadGrid ?x7_BadGrid ?x8_BadGrid ?x9_BadGrid ?xa_BadGrid ?g_Outside ?x0_Outside ?x1_Outside ?x2_Outside ?x3_Outside ?x4_Outside ?x5_Outside ?x6_Outside ?x7_Outside ?x8_Outside ?x9_Outside ?xa_Outside ?s_BadBits_BadBits ?s_BadBits_BadGrid ?s_BadBits_Outside ?s_BadGrid_BadBits ?s_BadGrid_BadGrid ?s_BadGrid_Outside ?s_Outside_BadBits ?s_Outside_BadGrid ?s_Outside_Outside
    (case tg_ROOT => k_is)
    (case og_LineModel => k_is)
    (case og_Ranger => k_is)
    (case og_Table => k_is)
    (case pa6 => k_is)
    (case pb6 => k_is)
    (case pa7 => k_is)
    (case pb7 => k_is)
    (case pa8 => k_is)
    (case pb8 => k_is)
    (case pa13 => k_is)
    (case pb13 => k_is)
    (case pa14 => k_is)
    (case pb14 => k_is)
    (case pc14 => k_is)
    (case pd14 => k_is)
    (case pa15 => k_is)
    (case pb15 => k_is)
    (case pa18 => k_is)
    (case pb18 => k_is)
    (case pa19 => k_is)
    (case pb19 => k_is)
    (case pa20 => k_is)
    (case pb20 => k_is)
    (case pa21 => k_is)
    (case pb21 => k_is)
    (case pa22 => k_is)
    (case pb22 => k_is)
    (case pa23 => k_is)
    (case pb23 => k_is)
    (case pa24 => k_is)
    (case pb24 => k_is)
    (case pa25 => k_is)
    (case pb25 => k_is)
    (case g_BadBits => k_is)
    (case g_BadGrid => k_is)
    (case g_Outside => k_is)
    (case a0 => k_is)
    (case l0 => k_is)
    (case c0 => k_is)
    (case k0 => k_is)
    (case a1 => k_is)
    (case l1 => k_is)
    (case c1 => k_is)
    (case k1 => k_is)
    (case a2 => k_is)
    (case l2 => k_is)
    (case c2 => k_is)
    (case k2 => k_is)
    (case a3 => k_is)
    (case l3 => k_is)
    (case c3 => k_is)
    (case k3 => k_is)
    (case a4 => k_is)
    (case l4 => k_is)
    (case c4 => k_is)
    (case k4 => k_is)
    (case a5 => k_is)
    (case l5 => k_is)
    (case c5 => k_is)
    (case k5 => k_is)
    (case l6 => k_is)
    (case c6 => k_is)
    (case k6 => k_is)
    (case l7 => k_is)
    (case c7 => k_is)
    (case k7 => k_is)
    (case l8 => k_is)
    (case c8 => k_is)
    (case k8 => k_is)
    (case a9 => k_is)
    (case l9 => k_is)
    (case c9 => k_is)
    (case k9 => k_is)
    (case a10 => k_is)
    (case l10 => k_is)
    (case c10 => k_is)
    (case k10 => k_is)
    (case a11 => k_is)
    (case l11 => k_is)
    (case c11 => k_is)
    (case k11 => k_is)
    (case a12 => k_is)
    (case l12 => k_is)
    (case c12 => k_is)
    (case k12 => k_is)
    (case l13 => k_is)
    (case c13 => k_is)
    (case k13 => k_is)
    (case l14 => k_is)
    (case c14 => k_is)
    (case k14 => k_is)
    (case l15 => k_is)
    (case c15 => k_is)
    (case k15 => k_is)
    (case a16 => k_is)
    (case l16 => k_is)
    (case c16 => k_is)
    (case k16 => k_is)
    (case a17 => k_is)
    (case l17 => k_is)
    (case c17 => k_is)
    (case k17 => k_is)
    (case l18 => k_is)
    (case c18 => k_is)
    (case k18 => k_is)
    (case l19 => k_is)
    (case c19 => k_is)
    (case k19 => k_is)
    (case l20 => k_is)
    (case c20 => k_is)
    (case k20 => k_is)
    (case l21 => k_is)
    (case c21 => k_is)
    (case k21 => k_is)
    (case l22 => k_is)
    (case c22 => k_is)
    (case k22 => k_is)
    (case l23 => k_is)
    (case c23 => k_is)
    (case k23 => k_is)
    (case l24 => k_is)
    (case c24 => k_is)
    (case k24 => k_is)
    (case l25 => k_is)
    (case c25 => k_is)
    (case k25 => k_is)
    (case a26 => k_is)
    (case l26 => k_is)
    (case c26 => k_is)
    (case k26 => k_is)
    (case a27 => k_is)
    (case l27 => k_is)
    (case c27 => k_is)
    (case k27 => k_is)
    (case a28 => k_is)
    (case l28 => k_is)
    (case c28 => k_is)
    (case k28 => k_is)
    (case a29 => k_is)
    (case l29 => k_is)
    (case c29 => k_is)
    (case k29 => k_is)
    (case a30 => k_is)
    (case l30 => k_is)
    (case c30 => k_is)
    (case k30 => k_is)
    (case a31 => k_is)
    (case l31 => k_is)
    (case c31 => k_is)
    (case k31 => k_is)
    (case a32 => k_is)
    (case l32 => k_is)
    (case c32 => k_is)
    (case k32 => k_is)
    (case tl_ROOT => k_is)
    (case o1_LineModel => k_is)
    (case o2_LineModel => k_is)
    (case o3_LineModel => k_is)
    (case o4_LineModel => k_is)
    (case o5_LineModel => k_is)
    (case o6_LineModel => k_is)
    (case o1_Ranger => k_is)
    (case o2_Ranger => k_is)
    (case o3_Ranger => k_is)
    (case o4_Ranger => k_is)
    (case o5_Ranger => k_is)
    (case o6_Ranger => k_is)
    (case o1_Table => k_is)
    (case o2_Table => k_is)
    (case o3_Table => k_is)
    (case o4_Table => k_is)
    (case o5_Table => k_is)
    (case o6_Table => k_is)
    (case on_LineModel__around => k_is)
    (case on_LineModel__begun => k_is)
    (case on_LineModel__last_pass => k_is)
    (case on_LineModel__plane => k_is)
    (case on_LineModel__rect => k_is)
    (case on_LineModel__signs => k_is)
    (case on_LineModel__sizes => k_is)
    (case on_LineModel__spot => k_is)
    (case on_LineModel__tables => k_is)
    (case on_LineModel__told => k_is)
    (case on_LineModel__turns => k_is)
    (case on_Ranger__node => k_is)
    (case on_Table__counts => k_is)
    (case z_any => k_is)
    (case z_bool => k_is)
    (case z_int => k_is)
    (case z_isinstance => k_is)
    (case z_len => k_is)
    (case z_list => k_is)
    (case z_max => k_is)
    (case z_min => k_is)
    (case z_range => k_is)
    (case z_sum => k_is)
    (case z_tuple => k_is)
    (case e_FAR => k_is)
    (case e_GAIN => k_is)
    (case e_HALF_WIDTH => k_is)
    (case e_LEAST_WIDTH => k_is)
    (case e_MOST_NEAR => k_is)
    (case e_MOST_PLANES => k_is)
    (case e_MOST_TOTAL => k_is)
    (case e_NEAR => k_is)
    (case e_OLD => k_is)
    (case e_ROOT_SCALE => k_is)
    (case e_SHARPER => k_is)
    (case e_YOUNG => k_is)
    (case x0_BadBits => k_exc)
    (case x1_BadBits => k_is)
    (case x2_BadBits => k_is)
    (case x3_BadBits => k_is)
    (case x4_BadBits => k_is)
    (case x5_BadBits => k_is)
    (case x6_BadBits => k_is)
    (case x7_BadBits => k_is)
    (case x8_BadBits => k_is)
    (case x9_BadBits => k_is)
    (case xa_BadBits => k_is)
    (case x0_BadGrid => k_exc)
    (case x1_BadGrid => k_is)
    (case x2_BadGrid => k_is)
    (case x3_BadGrid => k_is)
    (case x4_BadGrid => k_is)
    (case x5_BadGrid => k_is)
    (case x6_BadGrid => k_is)
    (case x7_BadGrid => k_is)
    (case x8_BadGrid => k_is)
    (case x9_BadGrid => k_is)
    (case xa_BadGrid => k_is)
    (case x0_Outside => k_exc)
    (case x1_Outside => k_is)
    (case x2_Outside => k_is)
    (case x3_Outside => k_is)
    (case x4_Outside => k_is)
    (case x5_Outside => k_is)
    (case x6_Outside => k_is)
    (case x7_Outside => k_is)
    (case x8_Outside => k_is)
    (case x9_Outside => k_is)
    (case xa_Outside => k_is)
    (case s_BadBits_BadBits => first | rfl | k_is)
    (case s_BadBits_BadGrid => first | rfl | k_is)
    (case s_BadBits_Outside => first | rfl | k_is)
    (case s_BadGrid_BadBits => first | rfl | k_is)
    (case s_BadGrid_BadGrid => first | rfl | k_is)
    (case s_BadGrid_Outside => first | rfl | k_is)
    (case s_Outside_BadBits => first | rfl | k_is)
    (case s_Outside_BadGrid => first | rfl | k_is)
    (case s_Outside_Outside => first | rfl | k_is)
#print axioms PySem.Challenge.cw_narrowingbits_k11_told_grows_with_bits_holds
