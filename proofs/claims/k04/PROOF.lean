import PyProof.Rows.All
import Wide.All
import OpenK.AllK
import Wide.FinOn
import HandS.ForMost
import HandS.ForExc
import HandS.ExcIs
import HandS.IsInst
import HandS.TupLe
import HandS.Property
import HandS.MakeKwOnly
import HandS.ClsMeth
import HandS.ExcInit
import HandS.ExcField
import HandS.Nested
import HandS.Replace
import HandS.Codes
import HandS.Wide
import HandS.Style
import HandS.FStr
import HandS.StrMore
import HandS.WideBits
import HandS.Walk
import KE.KSuper
import KE.KExcSuper
import KE.KExcIs
import PyProof.Rows.StrIntSpec
import PyProof.FString3
import PyProof.Rows.FStr
import PySem.Challenge.RW_narrowingbits_k04_hex_texts_both_ways
set_option Elab.async false
set_option maxRecDepth 100000
set_option maxHeartbeats 4000000
namespace NB
open PySem L2
/-! ### the frozen part, the steps -/
/-- from (F, H) to (F', H'): F is what stands still, H the whole; S: the cells that may be written -/
structure Stp (S : Addr → Prop) (F H F' H' : Hp) : Prop where
  ff : Same F F'
  fh : Same F' H'
  fo : ∀ b o, H b = some o → F' b = F b
  keep : ∀ b o, ¬ S b → H b = some o → H' b = some o
  dom : ∀ b o, H b = some o → ∃ o', H' b = some o'
abbrev S0 : Addr → Prop := fun _ => False
abbrev S1 (p : Addr) : Addr → Prop := fun b => b = p
section
variable {S S' : Addr → Prop} {F H F1 H1 F2 H2 : Hp} {p : Addr} {o o' : HO}
theorem Stp.rfl' (h : Same F H) : Stp S F H F H := ⟨Same.refl F, h, fun _ _ _ => rfl, fun _ _ _ e => e, fun _ o e => ⟨o, e⟩⟩
theorem Stp.trans (a : Stp S F H F1 H1) (b : Stp S F1 H1 F2 H2) : Stp S F H F2 H2 :=
  ⟨a.ff.trans b.ff, b.fh, fun c o e => by
    obtain ⟨o', e'⟩ := a.dom c o e
    rw [b.fo c o' e', a.fo c o e], fun c o n e => b.keep c o n (a.keep c o n e), fun c o e => by
    obtain ⟨o', e'⟩ := a.dom c o e
    exact b.dom c o' e'⟩
theorem Stp.sub (i : ∀ b, S b → S' b) (a : Stp S F H F1 H1) : Stp S' F H F1 H1 := ⟨a.ff, a.fh, a.fo, fun b o n e => a.keep b o (fun z => n (i b z)) e, a.dom⟩
theorem Stp.up (a : Stp S0 F H F1 H1) : Stp S F H F1 H1 := a.sub fun _ z => z.elim
theorem Stp.same (a : Stp S0 F H F1 H1) : Same H H1 := fun b o e => a.keep b o (fun z => z) e
/-- a new thing that will never change -/
theorem Stp.new (h : Same F H) (hp : H p = none) : Stp S F H (upd F p o) (upd H p o) := by
  have fp : F p = none := h.free hp
  refine ⟨fun b u e => ?_, fun b u e => ?_, fun b u e => ?_, fun b u _ e => ?_, fun b u e => ⟨u, ?_⟩⟩
  · rw [upd_ne (ne_of_none e fp)]; exact e
  · by_cases q : b = p
    · subst q; rw [upd_same] at e ⊢; exact e
    · rw [upd_ne q] at e ⊢; exact h b u e
  · rw [upd_ne (ne_of_none e hp)]
  · rw [upd_ne (ne_of_none e hp)]; exact e
  · rw [upd_ne (ne_of_none e hp)]; exact e
/-- a new cell -/
theorem Stp.cell (h : Same F H) (hp : H p = none) : Stp S F H F (upd H p o) :=
  ⟨Same.refl F, fun b u e => by rw [upd_ne (ne_of_none (h b u e) hp)]; exact h b u e, fun _ _ _ => rfl, fun b u _ e => by rw [upd_ne (ne_of_none e hp)]; exact e, fun b u e => ⟨u, by rw [upd_ne (ne_of_none e hp)]; exact e⟩⟩
/-- a cell written -/
theorem Stp.wr (h : Same F H) (hs : S p) (fp : F p = none) : Stp S F H F (upd H p o) :=
  ⟨Same.refl F, fun b u e => by
    have n : b ≠ p := fun q => by rw [q, fp] at e; cases e
    rw [upd_ne n]; exact h b u e, fun _ _ _ => rfl, fun b u n e => by
    have q : b ≠ p := fun z => n (z ▸ hs)
    rw [upd_ne q]; exact e, fun b u e => by
    by_cases q : b = p
    · exact ⟨o, by rw [q, upd_same]⟩
    · exact ⟨u, by rw [upd_ne q]; exact e⟩⟩
/-- a cell that was made here is written -/
theorem Stp.wrNew (a : Stp S F H F1 H1) (hn : H p = none) (fp : F1 p = none) : Stp S F H F1 (upd H1 p o) :=
  ⟨a.ff, fun b u e => by
    have n : b ≠ p := fun q => by rw [q, fp] at e; cases e
    rw [upd_ne n]; exact a.fh b u e, a.fo, fun b u n e => by
    rw [upd_ne (ne_of_none e hn)]; exact a.keep b u n e, fun b u e => by
    rw [upd_ne (ne_of_none e hn)]; exact a.dom b u e⟩
/-- a cell that was made here stands still from now on -/
theorem Stp.freeze (a : Stp S F H F1 H1) (hn : H p = none) (hp : H1 p = some o) (fp : F1 p = none) : Stp S F H (upd F1 p o) H1 :=
  ⟨fun b u e => by
    have e1 := a.ff b u e
    rw [upd_ne (ne_of_none e1 fp)]; exact e1, fun b u e => by
    by_cases q : b = p
    · subst q; rw [upd_same] at e; cases e; exact hp
    · rw [upd_ne q] at e; exact a.fh b u e, fun b u e => by
    rw [upd_ne (ne_of_none e hn)]; exact a.fo b u e, a.keep, a.dom⟩
theorem Stp.free (a : Stp S F H F1 H1) (hp : H p = some o) (fp : F p = none) : F1 p = none := (a.fo p o hp).trans fp
end
/-! ### a def that stands, with its promise -/
structure Fn (P : Program) (w : World) (K : PySem.W.Frag) (mg : Str → Option Value) (base : Heap) (CX : CXT) (k : Nat) (nm : Str) (st : Stmt) (f : Addr) (fd : FuncData) (ps : List Str) (sp : Sp) : Prop where
  G : FnOk P w K mg base CX k f fd ps sp
  m : mg nm = some (.ref f)
  kp : PySem.W.keepIn K (.ref f) = true
  b : Binds K fd ps []
  F : Fun K nm nm st f fd
/-! ### keywords -/
def gK {α : Type} (n m : Nat) (us ws : List α) : List α := if us.length = n ∧ ws.length = m then us ++ ws else []
theorem _root_.L2.Fun.kbinds {K : PySem.W.Frag} {x qual : Str} {st : Stmt} {f : Addr} {fd : FuncData} {ps : List Str} (F : Fun K x qual st f fd) (n : Nat) (ks : List Str) (hn : 0 < ps.length)
    (h : ∀ (kV doc pm : Value) (an : Option Addr) (cdv ct : Value) (us ws : List Value), us.length = n → ws.length = ks.length → bindArgs (PySem.W.fnOf x qual (defArgs st) (defBody st) (defScope st) .none kV doc pm an cdv ct) ⟨us, ks.zip ws⟩ = pure (ps.zip (us ++ ws))) :
    KBinds K fd ps ks (gK n ks.length) (gK n ks.length) := by
  obtain ⟨oc, od, kV, doc, pm, an, cdv, ct, osl, rfl, lk, hcd⟩ := F.ex
  refine ⟨fun s us ws _ hl => ?_, fun {vs us zs ws} r rz => ?_⟩
  · by_cases c : us.length = n ∧ ws.length = ks.length
    · have e : gK n ks.length us ws = us ++ ws := if_pos c
      rw [e]
      exact .of_eq (h kV doc pm an cdv ct us ws c.1 c.2)
    · have e : gK n ks.length us ws = [] := if_neg c
      rw [e] at hl
      exact absurd hl (by show ¬ 0 = ps.length; omega)
  · unfold gK
    by_cases c : us.length = n ∧ ws.length = ks.length
    · have c' : vs.length = n ∧ zs.length = ks.length := ⟨r.length.trans c.1, rz.length.trans c.2⟩
      rw [if_pos c, if_pos c']
      exact r.append rz
    · have c' : ¬ (vs.length = n ∧ zs.length = ks.length) := fun z => c ⟨r.length.symm.trans z.1, rz.length.symm.trans z.2⟩
      rw [if_neg c, if_neg c']
      exact .nil
def tCallK0 (sp : Sp) (gV : List V → List V → List V) (E : XK) (tk : TA) : TE := fun σ H Q => tk σ H fun zs H2 => sp (gV [] zs) H2 Q E
theorem pe_callK0 {X : Cx} {CX : CXT} {k : Nat} {f : Addr} {fd : FuncData} {ps ks : List Str} {sp : Sp} {E : XK} {x : Str} {p pos : Pos} {kws : List Keyword} {tk : TA} {g : List Value → List Value → List Value} {gV : List V → List V → List V}
    (F : FnOk X.prog X.w X.K X.mg X.base CX k f fd ps sp) (hr : Room k X.A) (hg : Gl X x) (hm : X.mg x = some (.ref f)) (hk : PySem.W.keepIn X.K (.ref f) = true) (hb : KBinds X.K fd ps ks g gV) (hx : Passes CX X E) (hkw : PK X kws tk)
    (hall : (backToKw pos (keywordEach kws X.env)).all (·.1.isSome) = true := by rfl) (hks : (backToKw pos (keywordEach kws X.env)).filterMap (·.1) = ks := by rfl) (hdb : (x == ("__debug__" : Str)) = false := by decide)
    (hpl : ((backTo pos (starEach [] X.env)).any (·.1) || (backToKw pos (keywordEach kws X.env)).any (·.1.isNone)) = false := by rfl) : PE X (.Call (.Name x p) [] kws pos) (tCallK0 sp gV E tk) := by
  refine ⟨fun pins s σ H Q I h => ?_⟩
  refine wpAny_Call_Name_kw (ld_glob I hg hm ?_ hdb)
  refine PySem.W.callWith_KW0 (h₀ := X.base) I.ok.mod.kin hk hall ?_ hpl
  refine thn (hkw.run pos pins s σ H _ I h) fun ws s2 ⟨zs, H2, I2, rz, q2⟩ => ⟨I2.kIn, ?_⟩
  rw [hks]
  exact run_fnk F hr hb hx I2 .nil rz q2
def SpN (n : Nat) (s : Sp) : Sp := fun vs H Q E => vs.length = n ∧ s vs H Q E
/-! ### rules under names -/
def rInt1 : List V → Hp → VK → Prop := fun xs H Q => (∃ i, xs = [.int i] ∧ Q (.int i) H) ∨ ∃ k, xs = [.bl k] ∧ Q (.int (if k then 1 else 0)) H
def rMax2 : List V → Hp → VK → Prop := fun xs H Q => ∃ i j, xs = [.int i, .int j] ∧ Q (.int (if j > i then j else i)) H
def rMin2 : List V → Hp → VK → Prop := fun xs H Q => ∃ i j, xs = [.int i, .int j] ∧ Q (.int (if j < i then j else i)) H
def rLen (K : PySem.W.Frag) : List V → Hp → VK → Prop := fun xs H Q => ∃ p ys, xs = [.ref p] ∧ (SqL K H p ys ∨ SqT K H p ys) ∧ Q (.int ys.length) H
section
variable {X : Cx}
theorem c_int1 : CallR X (.type "int") rInt1 := call_int1
theorem c_max2 (hc : X.calm = true) : CallR X (.builtin "max") rMax2 := call_max2 hc
theorem c_min2 (hc : X.calm = true) : CallR X (.builtin "min") rMin2 := call_min2 hc
theorem c_len (K : PySem.W.Frag) (e : X.K = K) : CallR X (.builtin "len") (rLen K) := by subst e; exact call_len_seq
theorem c_isi (K : PySem.W.Frag) (e : X.K = K) : CallR X (.builtin "isinstance") (rIsi K) := by subst e; exact call_isi
theorem i_list (K : PySem.W.Frag) (e : X.K = K) : IxR X (rIxL K) := by subst e; exact ix_list
theorem i_tup (K : PySem.W.Frag) (e : X.K = K) : IxR X (rIxT K) := by subst e; exact ix_tup
theorem o_and1 : OpR X (binaryOp .BitAnd) (fun x y H Q => ∃ i : Int, x = .int i ∧ y = .int 1 ∧ Q (.int (i % 2)) H) := by
  intro pins s σ H x y v u Q I rx ry h
  obtain ⟨i, rfl, rfl, q⟩ := h
  exact op_andM pins s σ H _ _ v u Q I rx ry ⟨i, 1, rfl, rfl, by simpa using q⟩
theorem l_list (K : PySem.W.Frag) (e : X.K = K) : SlR X (rSlL K) := by subst e; exact sl_list
theorem o_in (K : PySem.W.Frag) (e : X.K = K) : OpR X (compareOp .In) (rIn K false) := by subst e; exact op_in_seq
theorem o_notIn (K : PySem.W.Frag) (e : X.K = K) : OpR X (compareOp .NotIn) (rIn K true) := by subst e; exact op_notIn_seq
def rDivmod : List V → Hp → VK → Prop := fun xs H Q => ∃ i j, xs = [.int i, .int j] ∧ CDiv i j ∧ ∀ p, H p = none → Q (.ref p) (upd H p (.tup [.int (i / j), .int (i % j)]))
theorem c_divmod : CallR X (.builtin "divmod") rDivmod := call_divmod
theorem o_eqD (K : PySem.W.Frag) (e : X.K = K) (hu : X.A.units + 64 < cLine) : OpR X (compareOp .Eq) (rEqD K) := by subst e; exact op_eqD hu
theorem o_neD (K : PySem.W.Frag) (e : X.K = K) (hu : X.A.units + 64 < cLine) : OpR X (compareOp .NotEq) (rNeD K) := by subst e; exact op_neD hu
end
theorem sz {n : Nat} (h : n ≤ 100000) : n ≤ sizeLine := Nat.le_trans h (by decide)
/-! ### readings, step by step -/
section
variable {X : Cx} {K : PySem.W.Frag} {σ : L2.St} {H F : Hp} {Q : VK} {i : Nat} {v x y : V} {ta tb : TE} {r : R2}
theorem s_var (h : σ[i]? = some (some v)) (q : Q v H) : tVar i σ H Q := ⟨v, h, q⟩
theorem s_c (q : Q v H) : tC v σ H Q := q
theorem s_op (h : ta σ H fun x H1 => tb σ H1 fun y H2 => r x y H2 Q) : tOp r ta tb σ H Q := h
theorem s_I0 {g : Int → Int → V} {i j : Int} (q : Q (g i j) H) : rI0 g (.int i) (.int j) H Q := ⟨i, j, rfl, rfl, q⟩
theorem s_I {C : Int → Int → Prop} {g : Int → Int → V} {i j : Int} (c : C i j) (q : Q (g i j) H) : rI C g (.int i) (.int j) H Q := ⟨i, j, rfl, rfl, c, q⟩
theorem s_eq (h : scal x y = true) (q : Q (.bl (decide (x = y))) H) : rEq x y H Q := ⟨h, q⟩
theorem dec_int (i j : Int) : decide (V.int i = V.int j) = decide (i = j) := by by_cases h : i = j <;> simp [h]
theorem dec_str (i j : Str) : decide (V.str i = V.str j) = decide (i = j) := by by_cases h : i = j <;> simp [h]
theorem s_eqI {i j : Int} (q : Q (.bl (decide (i = j))) H) : rEq (.int i) (.int j) H Q := ⟨rfl, by rw [dec_int]; exact q⟩
theorem s_neI {i j : Int} (q : Q (.bl (!decide (i = j))) H) : rNe (.int i) (.int j) H Q := ⟨rfl, by rw [dec_int]; exact q⟩
theorem s_eqS {i j : Str} (q : Q (.bl (decide (i = j))) H) : rEq (.str i) (.str j) H Q := ⟨rfl, by rw [dec_str]; exact q⟩
theorem s_neS {i j : Str} (q : Q (.bl (!decide (i = j))) H) : rNe (.str i) (.str j) H Q := ⟨rfl, by rw [dec_str]; exact q⟩
theorem s_chain {r' : R2} {tc : TE} (h : ta σ H fun x H1 => tb σ H1 fun y H2 => r x y H2 fun z H3 => ∃ k, z = .bl k ∧ if k = true then tc σ H3 fun u H4 => r' y u H4 Q else Q (.bl false) H3) : tChain r r' ta tb tc σ H Q := by
  unfold tChain; exact h
theorem s_par3 {i j l : Nat} {ta : TA} {D : Ends} (h : ta σ H fun vs H1 => ∃ u v w, vs = [u, v, w] ∧ D.nx (((σ.set i (some u)).set j (some v)).set l (some w)) H1) : tPar3 i j l ta D σ H := h
theorem s_par {i j : Nat} {ta : TA} {D : Ends} (h : ta σ H fun vs H1 => ∃ v w, vs = [v, w] ∧ D.nx ((σ.set i (some v)).set j (some w)) H1) : tPar i j ta D σ H := h
theorem s_v2 {x y : V} {R : V → V → Prop} (h : R x y) : ∃ a b, [x, y] = [a, b] ∧ R a b := ⟨x, y, rfl, h⟩
theorem s_v3 {x y z : V} {R : V → V → V → Prop} (h : R x y z) : ∃ a b c, [x, y, z] = [a, b, c] ∧ R a b c := ⟨x, y, z, rfl, h⟩
theorem s_tup {t : TA} (h : t σ H fun xs H1 => xs.length ≤ sizeLine ∧ ∀ p, H1 p = none → Q (.ref p) (upd H1 p (.tup xs))) : tTup t σ H Q := h
theorem s_lst {t : TA} (h : t σ H fun xs H1 => xs.length ≤ sizeLine ∧ ∀ p, H1 p = none → Q (.ref p) (upd H1 p (.lst xs))) : tLst t σ H Q := h
theorem s_nil {Q : List V → Hp → Prop} (q : Q [] H) : tNil σ H Q := q
theorem s_cons {t : TA} {Q : List V → Hp → Prop} (h : ta σ H fun x H1 => t σ H1 fun xs H2 => Q (x :: xs) H2) : tCons ta t σ H Q := h
theorem s_call {sp : Sp} {dvs : List V} {E : XK} {t : TA} (h : t σ H fun vs H1 => sp (vs ++ dvs) H1 Q E) : tCall sp dvs E t σ H Q := h
theorem s_callK0 {sp : Sp} {gV : List V → List V → List V} {E : XK} {t : TA} (h : t σ H fun zs H1 => sp (gV [] zs) H1 Q E) : tCallK0 sp gV E t σ H Q := h
theorem s_callK {sp : Sp} {gV : List V → List V → List V} {E : XK} {t tk : TA} (h : t σ H fun vs H1 => tk σ H1 fun zs H2 => sp (gV vs zs) H2 Q E) : tCallK sp gV E t tk σ H Q := h
theorem s_bits (h : ta σ H fun x H1 => ∃ i, x = .int i ∧ Q (.int (Builtin.Int.intBits i : Nat)) H1) : tBits ta σ H Q := h
theorem s_i {i : Int} {R : Int → Prop} (h : R i) : ∃ j, V.int i = V.int j ∧ R j := ⟨i, rfl, h⟩
theorem s_bm {T : String} {r : V → List V → Hp → VK → Prop} {to : TE} {t : TA} (h : to σ H fun x H1 => tyV K T x H1 ∧ t σ H1 fun xs H2 => r x xs H2 Q) : tBM K T r to t σ H Q := h
theorem s_bm0 {T : String} {r : V → List V → Hp → VK → Prop} {to : TE} (h : to σ H fun x H1 => tyV K T x H1 ∧ r x [] H1 Q) : tBM0 K T r to σ H Q := h
theorem s_m1 {r : V → List V → Hp → VK → Prop} (h : ta σ H fun x H1 => (∃ a, x = .str a) ∧ tb σ H1 fun y H2 => r x [y] H2 Q) : tM1 r ta tb σ H Q := h
theorem s_cb {r : List V → Hp → VK → Prop} {t : TA} (h : t σ H fun vs H1 => r vs H1 Q) : tCB r t σ H Q := h
theorem s_test {Q : Bool → Hp → Prop} {t : TE} (h : t σ H fun x H' => ∃ k, x = .bl k ∧ Q k H') : tTest t σ H Q := h
theorem s_tB {Q : Bool → Hp → Prop} {t : TE} (h : t σ H fun x H' => ∃ k, x = .bl k ∧ Q k H') : tB t σ H Q := h
theorem s_bl {k : Bool} {Q : Bool → Hp → Prop} (q : Q k H) : ∃ k', V.bl k = .bl k' ∧ Q k' H := ⟨k, rfl, q⟩
theorem s_not {Q : Bool → Hp → Prop} {t : TT} (h : t σ H fun c H1 => Q (!c) H1) : tNot t σ H Q := h
theorem s_and {Q : Bool → Hp → Prop} {t u : TT} (h : t σ H fun c H1 => if c = true then u σ H1 Q else Q false H1) : tAnd t u σ H Q := h
theorem s_or {Q : Bool → Hp → Prop} {t u : TT} (h : t σ H fun c H1 => if c = true then Q true H1 else u σ H1 Q) : tOr t u σ H Q := h
theorem s_un {r : V → Hp → VK → Prop} (h : ta σ H fun x H1 => r x H1 Q) : tUn r ta σ H Q := h
theorem s_U {g : Int → V} {i : Int} (q : Q (g i) H) : rU g (.int i) H Q := ⟨i, rfl, q⟩
theorem s_int1 {i : Int} (q : Q (.int i) H) : rInt1 [.int i] H Q := .inl ⟨i, rfl, q⟩
theorem s_int1b {b : Bool} (q : Q (.int (if b then 1 else 0)) H) : rInt1 [.bl b] H Q := .inr ⟨b, rfl, q⟩
theorem s_ixL {p : Addr} {xs : List V} {i : Int} (h : SqL K H p xs) (a : atI xs i = some v) (q : Q v H) : rIxL K (.ref p) (.int i) H Q := ⟨p, xs, i, v, rfl, rfl, h, a, q⟩
theorem s_ixT {p : Addr} {xs : List V} {i : Int} (h : SqT K H p xs) (a : atI xs i = some v) (q : Q v H) : rIxT K (.ref p) (.int i) H Q := ⟨p, xs, i, v, rfl, rfl, h, a, q⟩
theorem s_len {p : Addr} {xs : List V} (h : SqL K H p xs) (q : Q (.int xs.length) H) : rLen K [V.ref p] H Q := ⟨p, xs, rfl, .inl h, q⟩
theorem s_lenT {p : Addr} {xs : List V} (h : SqT K H p xs) (q : Q (.int xs.length) H) : rLen K [V.ref p] H Q := ⟨p, xs, rfl, .inr h, q⟩
theorem s_max2 {i j : Int} (q : Q (.int (if j > i then j else i)) H) : rMax2 [.int i, .int j] H Q := ⟨i, j, rfl, q⟩
theorem s_min2 {i j : Int} (q : Q (.int (if j < i then j else i)) H) : rMin2 [.int i, .int j] H Q := ⟨i, j, rfl, q⟩
theorem s_isi {v : V} {n : String} {t : String} {b : Bool} (h : TyX K H v (.type t)) (e : kitB t n = some b) (q : Q (.bl b) H) : rIsi K [v, .ty n] H Q := ⟨v, .ty n, .type t, .type n, b, rfl, .ty n, h, kit_ty e, q⟩
theorem s_eqD {d e : PyData} (h1 : Dp K H x d) (h2 : Dp K H y e) (s1 : SeqAt.shaped d = true) (s2 : SeqAt.shaped e = true) (q : Q (.bl (PyData.eqv d e)) H) : rEqD K x y H Q := ⟨d, e, h1, h2, s1, s2, q⟩
theorem s_andV {c : Bool} (h : if c = true then tb σ H Q else Q (.bl false) H) : ∃ c', V.bl c = .bl c' ∧ if c' = true then tb σ H Q else Q (.bl false) H := ⟨c, rfl, h⟩
theorem s_andV0 (h : ta σ H fun x H1 => ∃ c, x = .bl c ∧ if c = true then tb σ H1 Q else Q (.bl false) H1) : tAndV ta tb σ H Q := h
theorem s_orV0 (h : ta σ H fun x H1 => ∃ c, x = .bl c ∧ if c = true then Q (.bl true) H1 else tb σ H1 Q) : tOrV ta tb σ H Q := h
theorem s_notV (h : ta σ H fun x H1 => ∃ c, x = .bl c ∧ Q (.bl (!c)) H1) : tNotV ta σ H Q := h
theorem s_b {c : Bool} {R : Bool → Prop} (h : R c) : ∃ c', V.bl c = V.bl c' ∧ R c' := ⟨c, rfl, h⟩
theorem s_gtup {n : Nat} {t : TGs} {a : Addr} {xs : List V} {R : L2.St → Hp → Prop} (h : SqT K H a xs) (e : xs.length = n) (q : t xs σ H R) : gTup K n t (.ref a) σ H R := ⟨a, xs, rfl, h, e, q⟩
theorem s_gcons {t : TG} {u : TGs} {r : List V} {R : L2.St → Hp → Prop} (q : t v σ H fun σ' H' => u r σ' H' R) : gCons t u (v :: r) σ H R := ⟨v, r, rfl, q⟩
theorem s_gnil {R : L2.St → Hp → Prop} (q : R σ H) : gNil [] σ H R := ⟨rfl, q⟩
theorem s_gsub {to ti : TE} {t : TSet} {R : L2.St → Hp → Prop} (h : to σ H fun o H1 => ti σ H1 fun i H2 => t o i v H2 fun H3 => R σ H3) : gSub to ti t v σ H R := h
theorem s_setL {p : Addr} {xs : List V} {i : Int} {j : Nat} {R : Hp → Prop} (h : H p = some (.lst xs)) (e : ixN xs.length i = some j) (q : R (upd H p (.lst (xs.set j v)))) : rSetL (.ref p) (.int i) v H R := ⟨p, xs, i, j, rfl, rfl, h, e, q⟩
theorem s_ifE {t : TT} (h : t σ H fun c H1 => if c = true then ta σ H1 Q else tb σ H1 Q) : tIf t ta tb σ H Q := h
variable {D : Ends} {t u : TS}
theorem s_seq (h : t { D with nx := u D } σ H) : tSeq t u D σ H := h
theorem s_next (h : D.nx σ H) : tNext D σ H := h
theorem s_asg {g : TG} (h : ta σ H fun x H1 => g x σ H1 D.nx) : tAsg ta g D σ H := h
theorem s_gname {R : L2.St → Hp → Prop} (h : R (σ.set i (some v)) H) : gName i v σ H R := h
theorem s_ret (h : ta σ H D.rt) : tRet ta D σ H := h
theorem s_if {c : TT} (h : c σ H fun b H1 => if b = true then t D σ H1 else u D σ H1) : tIfS c t u D σ H := h
theorem s_drop (h : ta σ H fun _ H1 => D.nx σ H1) : tDrop ta D σ H := h
/-- a loop over what stands -/
def forT (J : It) (g : TG) (tb : TS) : TS := tFor (fun _ H R => R J H) g tb
theorem s_for {wi : TI} {g : TG} {tb : TS} (h : wi σ H fun J H1 => forT J g tb D σ H1) : tFor wi g tb D σ H := h
theorem s_iR1 {ta : TA} {R : It → Hp → Prop} (h : ta σ H fun vs H1 => ∃ n : Int, vs = [.int n] ∧ -(2 ^ 62) ≤ n ∧ n < 2 ^ 62 ∧ R (Itr 0 n.toNat) H1) : iRng1 ta σ H R := h
theorem s_iR2 {ta : TA} {R : It → Hp → Prop} (h : ta σ H fun vs H1 => ∃ m n : Int, vs = [.int m, .int n] ∧ (-(2 ^ 62) ≤ m ∧ m < 2 ^ 62 ∧ -(2 ^ 62) ≤ n ∧ n < 2 ^ 62) ∧ R (Itr m (n - m).toNat) H1) : iRng2 ta σ H R := h
theorem s_iL {R : It → Hp → Prop} (h : ta σ H fun x H1 => ∃ a, x = .ref a ∧ (∃ xs, SqL K H1 a xs) ∧ R (Itl K a) H1) : iList K ta σ H R := h
theorem s_iT {R : It → Hp → Prop} (h : ta σ H fun x H1 => ∃ a, x = .ref a ∧ (∃ xs, SqT K H1 a xs) ∧ R (Itt K a) H1) : iTup K ta σ H R := h
theorem s_iS {R : It → Hp → Prop} (h : ta σ H fun x H1 => ∃ z, x = .str z ∧ R (Its z) H1) : iStr ta σ H R := h
theorem forW {J : It} {n : Nat} {G : Hp → Prop} {Y : Nat → Hp → V → Hp → Prop} {g : TG} {tb : TS} (w : Walk J n G Y) (Pv : Nat → L2.St → Hp → Prop) (h0 : Pv 0 σ H) (hG : ∀ i σ H, i ≤ n → Pv i σ H → G H)
    (hs : ∀ i x σ H H', i < n → Pv i σ H → Y i H x H' → g x σ H' fun σ2 H2 => tb { D with nx := Pv (i + 1), ct := Pv (i + 1), bk := D.nx } σ2 H2) (hd : ∀ σ H, Pv n σ H → D.nx σ H) : forT J g tb D σ H := for_it w Pv h0 hG hs hd
theorem forR {lo : Int} {n : Nat} {g : TG} {tb : TS} (Pv : Nat → L2.St → Hp → Prop) (h0 : Pv 0 σ H) (hs : ∀ i σ H, i < n → Pv i σ H → g (.int (lo + i)) σ H fun σ2 H2 => tb { D with nx := Pv (i + 1), ct := Pv (i + 1), bk := D.nx } σ2 H2)
    (hd : ∀ σ H, Pv n σ H → D.nx σ H) : forT (Itr lo n) g tb D σ H := for_range Pv h0 hs hd
theorem forL {a : Addr} {xs : List V} {g : TG} {tb : TS} (Pv : Nat → L2.St → Hp → Prop) (h0 : Pv 0 σ H) (hl : ∀ i σ H, i ≤ xs.length → Pv i σ H → SqL K H a xs)
    (hs : ∀ i x σ H, xs[i]? = some x → Pv i σ H → g x σ H fun σ2 H2 => tb { D with nx := Pv (i + 1), ct := Pv (i + 1), bk := D.nx } σ2 H2) (hd : ∀ σ H, Pv xs.length σ H → D.nx σ H) : forT (Itl K a) g tb D σ H := for_list Pv h0 hl hs hd
/-- a comprehension over what stands -/
def lcT (J : It) (g : TG) (tt : TT) (te : TE) (vs : List Nat) : TE := tLc (fun _ H R => R J H) g tt te vs
theorem s_lc {wi : TI} {g : TG} {tt : TT} {te : TE} {vs : List Nat} (h : wi σ H fun J H1 => lcT J g tt te vs σ H1 Q) : tLc wi g tt te vs σ H Q := h
theorem s_sl {r : V → Option Int → Option Int → Hp → VK → Prop} {tl th : TO} (h : ta σ H fun x H1 => tl σ H1 fun l H2 => th σ H2 fun u H3 => r x l u H3 Q) : tSl r ta tl th σ H Q := h
theorem s_part {R : Option Int → Hp → Prop} (h : ta σ H fun x H1 => ∃ i, x = .int i ∧ R (some i) H1) : tPart ta σ H R := h
theorem s_nopart {R : Option Int → Hp → Prop} (h : R none H) : tNoPart σ H R := h
theorem s_slL {p : Addr} {xs : List V} {l u : Option Int} (h : SqL K H p xs) (q : ∀ p', H p' = none → Q (.ref p') (upd H p' (.lst (cutV xs l u)))) : rSlL K (.ref p) l u H Q := ⟨p, xs, rfl, h, q⟩
theorem s_iR3 {ta : TA} {R : It → Hp → Prop} (h : ta σ H fun vs H1 => ∃ (i j c : Int) (n : Nat), vs = [.int i, .int j, .int c] ∧ RgC i j c n ∧ R (Itc i c n) H1) : iRng3 ta σ H R := h
theorem rgc_up {L k : Int} (hL : 0 ≤ L) (hL2 : L < 2 ^ 62) (hk : 0 < k) (hk2 : k < 1073741824) : RgC 0 L k ((L + k - 1) / k).toNat := by
  have e : Builtin.Range.rangeSize 0 L k = (((L + k - 1) / k).toNat : Int) := by
    unfold Builtin.Range.rangeSize
    rw [if_pos hk]
    have h0 : 0 ≤ (L + k - 1) / k := Int.ediv_nonneg (by omega) (by omega)
    split
    · rw [show L + k - 1 = (L - 0 - 1) + k by omega, Int.add_ediv_of_dvd_right (Int.dvd_refl k), Int.ediv_self (by omega)]
      have : 0 ≤ (L - 0 - 1) / k := Int.ediv_nonneg (by omega) (by omega)
      omega
    · have : L = 0 := by omega
      subst this
      rw [Int.ediv_eq_zero_of_lt (by omega) (by omega)]; rfl
  refine ⟨by omega, by omega, ?_, e⟩
  have hb : (L + k - 1) / k ≤ L + k - 1 := Int.ediv_le_self _ (by omega)
  unfold Builtin.Range.small
  rw [e]
  simp only [Builtin.Range.rangeFitsLong, Bool.and_eq_true, Bool.or_eq_true, decide_eq_true_eq, beq_iff_eq, show (k > 0) = True from eq_true hk, if_true]
  omega
theorem s_wipe {σ2 : L2.St} {vs : List Nat} {R : Prop} (h : wipe σ2 vs = wipe σ vs) (q : R) : wipe σ2 vs = wipe σ vs ∧ R := ⟨h, q⟩
theorem s_yes {Q : Bool → Hp → Prop} (q : Q true H) : tYes σ H Q := q
/-- within a comprehension: what has been made so far stands at D -/
structure LcP (S : Addr → Prop) (F H : Hp) (Dd : Addr) (R : Nat → List V → Hp → Hp → Prop) (i : Nat) (Hc : Hp) : Prop where
  ex : ∃ Fc acc, Stp S F H Fc Hc ∧ Fc Dd = none ∧ Hc Dd = some (.lst acc) ∧ acc.length ≤ i ∧ R i acc Fc Hc
  fresh : H Dd = none
theorem lcW {J : It} {n : Nat} {G : Hp → Prop} {Y : Nat → Hp → V → Hp → Prop} {g : TG} {tt : TT} {te : TE} {vs : List Nat} (w : Walk J n G Y) (S : Addr → Prop) (hF : Same F H) (hS : ∀ b, S b → ∃ o, H b = some o)
    (hG : ∀ F1 H1, Stp S F H F1 H1 → G H1) (R : Nat → List V → Hp → Hp → Prop) (hR : ∀ i acc F1 H1 d o, ¬ S d → F1 d = none → Stp S F H F1 H1 → R i acc F1 H1 → R i acc F1 (upd H1 d o)) (h0 : R 0 [] F H)
    (hs : ∀ i x acc d F1 H1 H2, i < n → Y i H1 x H2 → H d = none → ¬ S d → Stp S F H F1 H1 → F1 d = none → H1 d = some (.lst acc) → acc.length ≤ i → R i acc F1 H1 → g x (wipe σ vs) H2 fun σ2 H3 => wipe σ2 vs = wipe σ vs ∧ tt σ2 H3 fun b H4 =>
      if b = true then te σ2 H4 fun y H5 => ∃ acc', H5 d = some (.lst acc') ∧ acc'.length < sizeLine ∧ LcP S F H d R (i + 1) (upd H5 d (.lst (acc' ++ [y]))) else LcP S F H d R (i + 1) H4)
    (hd : ∀ d acc F0 F1 H1, Stp S F H F0 H1 → H d = none → F0 d = none → F1 = upd F0 d (.lst acc) → Stp S F H F1 H1 → acc.length ≤ n → R n acc F0 H1 → Q (.ref d) H1) : lcT J g tt te vs σ H Q := by
  intro d hd0
  have nS : ¬ S d := fun z => by
    obtain ⟨o, e⟩ := hS d z
    rw [hd0] at e; cases e
  refine lc_it w (LcP S F H d R) ⟨⟨F, [], Stp.cell hF hd0, hF.free hd0, upd_same, Nat.le_refl _, hR 0 [] F H d _ nS (hF.free hd0) (.rfl' hF) h0⟩, hd0⟩ (fun i H1 _ p => ?_) (fun i x H1 H2 hi p y => ?_) (fun H1 p => ?_)
  · obtain ⟨⟨Fc, acc, st, _⟩, _⟩ := p
    exact hG _ _ st
  · obtain ⟨⟨Fc, acc, st, f0, e, hl, r⟩, _⟩ := p
    exact hs i x acc d Fc H1 H2 hi y hd0 nS st f0 e hl r
  · obtain ⟨⟨Fc, acc, st, f0, e, hl, r⟩, _⟩ := p
    exact hd d acc Fc _ H1 st hd0 f0 rfl (st.freeze hd0 e f0) hl r
theorem lc_end {S : Addr → Prop} {R : Nat → List V → Hp → Hp → Prop} {i : Nat} {acc : List V} {d : Addr} {F1 H1 F4 H4 : Hp} {y : V} (hN : H d = none) (nS : ¬ S d) (st : Stp S F H F1 H1) (f0 : F1 d = none) (e : H1 d = some (.lst acc)) (hl : acc.length ≤ i) (hi : i < 100000)
    (s4 : Stp S F1 H1 F4 H4) (r : R (i + 1) (acc ++ [y]) F4 (upd H4 d (.lst (acc ++ [y])))) : ∃ acc', H4 d = some (.lst acc') ∧ acc'.length < sizeLine ∧ LcP S F H d R (i + 1) (upd H4 d (.lst (acc' ++ [y]))) :=
  ⟨acc, s4.keep _ _ nS e, Nat.lt_of_lt_of_le (Nat.lt_of_le_of_lt hl hi) (by decide), ⟨⟨F4, acc ++ [y], (st.trans s4).wrNew hN ((s4.fo _ _ e).trans f0), (s4.fo _ _ e).trans f0, upd_same, by simp; omega, r⟩, hN⟩⟩
theorem lc_skip {S : Addr → Prop} {R : Nat → List V → Hp → Hp → Prop} {i : Nat} {acc : List V} {d : Addr} {F1 H1 F4 H4 : Hp} (hN : H d = none) (nS : ¬ S d) (st : Stp S F H F1 H1) (f0 : F1 d = none) (e : H1 d = some (.lst acc)) (hl : acc.length ≤ i)
    (s4 : Stp S F1 H1 F4 H4) (r : R (i + 1) acc F4 H4) : LcP S F H d R (i + 1) H4 := ⟨⟨F4, acc, st.trans s4, (s4.fo _ _ e).trans f0, s4.keep _ _ nS e, by omega, r⟩, hN⟩
theorem ifd {p A B : Prop} [Decidable p] (a : p → A) (b : ¬ p → B) : if decide p = true then A else B := by
  by_cases h : p
  · rw [if_pos (decide_eq_true h)]; exact a h
  · rw [if_neg (by simp [h])]; exact b h
theorem itNF {A B : Prop} (h : B) : if (!true) = true then A else B := h
theorem itNT {A B : Prop} (h : A) : if (!false) = true then A else B := h
theorem ifn {p A B : Prop} [Decidable p] (a : p → B) (b : ¬ p → A) : if (!decide p) = true then A else B := by
  by_cases h : p
  · rw [if_neg (by simp [h])]; exact a h
  · rw [if_pos (by simp [h])]; exact b h
end
theorem eqv_ints (u v : Int) : PyData.eqv (.tuple [.int u, .int v]) (.tuple [.int u, .int v]) = true := by simp [PyData.eqv, PyData.eqvAll]
/-! ### tests that may be weakened (for while) -/
def MonE (t : TE) : Prop := ∀ σ H (Q Q' : VK), (∀ v H1, Q v H1 → Q' v H1) → t σ H Q → t σ H Q'
def MonT (t : TT) : Prop := ∀ σ H (Q Q' : Bool → Hp → Prop), (∀ b H1, Q b H1 → Q' b H1) → t σ H Q → t σ H Q'
def MonA (t : TA) : Prop := ∀ σ H (Q Q' : List V → Hp → Prop), (∀ vs H1, Q vs H1 → Q' vs H1) → t σ H Q → t σ H Q'
def MonR (r : R2) : Prop := ∀ x y H (Q Q' : VK), (∀ v H1, Q v H1 → Q' v H1) → r x y H Q → r x y H Q'
theorem mon_var {i : Nat} : MonE (tVar i) := fun _ _ _ _ h ⟨v, e, q⟩ => ⟨v, e, h _ _ q⟩
theorem mon_c {v : V} : MonE (tC v) := fun _ _ _ _ h q => h _ _ q
theorem mon_op {r : R2} {a b : TE} (hr : MonR r) (ha : MonE a) (hb : MonE b) : MonE (tOp r a b) := fun σ _ _ _ h q => ha _ _ _ _ (fun x H1 q1 => hb _ _ _ _ (fun y H2 q2 => hr _ _ _ _ _ h q2) q1) q
theorem mon_I0 {g : Int → Int → V} : MonR (rI0 g) := fun _ _ _ _ _ h ⟨i, j, e1, e2, q⟩ => ⟨i, j, e1, e2, h _ _ q⟩
theorem mon_I {C : Int → Int → Prop} {g : Int → Int → V} : MonR (rI C g) := fun _ _ _ _ _ h ⟨i, j, e1, e2, c, q⟩ => ⟨i, j, e1, e2, c, h _ _ q⟩
theorem mon_eq : MonR rEq := fun _ _ _ _ _ h ⟨e, q⟩ => ⟨e, h _ _ q⟩
theorem mon_ne : MonR rNe := fun _ _ _ _ _ h ⟨e, q⟩ => ⟨e, h _ _ q⟩
theorem mon_ixL {K : PySem.W.Frag} : MonR (rIxL K) := fun _ _ _ _ _ h ⟨p, xs, i, v, e1, e2, s, a, q⟩ => ⟨p, xs, i, v, e1, e2, s, a, h _ _ q⟩
theorem mon_nil : MonA tNil := fun _ _ _ _ h q => h _ _ q
theorem mon_cons {a : TE} {t : TA} (ha : MonE a) (ht : MonA t) : MonA (tCons a t) := fun σ _ _ _ h q => ha _ _ _ _ (fun x H1 q1 => ht _ _ _ _ (fun xs H2 q2 => h _ _ q2) q1) q
theorem mon_len {K : PySem.W.Frag} {t : TA} (ht : MonA t) : MonE (tCB (rLen K) t) := fun σ _ _ _ h q => ht _ _ _ _ (fun vs H1 ⟨p, ys, e, s, q1⟩ => ⟨p, ys, e, s, h _ _ q1⟩) q
theorem mon_test {a : TE} (ha : MonE a) : MonT (tTest a) := fun σ _ _ _ h q => ha _ _ _ _ (fun x H1 ⟨k, e, q1⟩ => ⟨k, e, h _ _ q1⟩) q
theorem mon_and {a b : TT} (ha : MonT a) (hb : MonT b) : MonT (tAnd a b) := fun σ _ _ _ h q => ha _ _ _ _ (fun c H1 q1 => by
  cases c with
  | true => exact hb _ _ _ _ h q1
  | false => exact h _ _ q1) q
theorem whileM {D : Ends} {σ : L2.St} {H : Hp} {c : TT} {tb : TS} (m : MonT c) (Pv : L2.St → Hp → Prop) (μ : L2.St → Hp → Nat) (h0 : Pv σ H)
    (hs : ∀ σ H, Pv σ H → c σ H fun b H1 => if b = true then tb { D with nx := fun σ' H' => Pv σ' H' ∧ μ σ' H' < μ σ H, ct := fun σ' H' => Pv σ' H' ∧ μ σ' H' < μ σ H, bk := D.nx } σ H1 else D.nx σ H1) : tWhile c tb D σ H := while_by Pv μ h0 hs m
/-! ### data compared: lists and tuples of numbers -/
open PyData in
theorem depthAll_ints : ∀ ns : List Int, depthAll (ns.map PyData.int) ≤ 1
  | [] => by simp [depthAll]
  | n :: ns => by
    have := depthAll_ints ns
    simp only [List.map_cons, depthAll, depth]
    omega
open PyData in
theorem canLay_ints : ∀ ns : List Int, canLayAll0 (ns.map PyData.int) = true
  | [] => rfl
  | n :: ns => by simp [canLayAll0, canLay0, canLay_ints ns]
theorem shaped_ints (ns : List Int) : SeqAt.shaped (.list (ns.map .int)) = true := by
  have h := depthAll_ints ns
  have e : (PyData.list (ns.map .int)).depth = PyData.depthAll (ns.map .int) + 1 := by rw [PyData.depth]
  exact Bool.and_eq_true_iff.mpr ⟨by rw [PyData.canLay0]; exact canLay_ints ns, decide_eq_true (by rw [e]; omega)⟩
theorem shaped_intsT (ns : List Int) : SeqAt.shaped (.tuple (ns.map .int)) = true := by
  have h := depthAll_ints ns
  have e : (PyData.tuple (ns.map .int)).depth = PyData.depthAll (ns.map .int) + 1 := by rw [PyData.depth]
  exact Bool.and_eq_true_iff.mpr ⟨by rw [PyData.canLay0]; exact canLay_ints ns, decide_eq_true (by rw [e]; omega)⟩
open PyData in
theorem eqvAll_ints : ∀ ns ms : List Int, eqvAll (ns.map PyData.int) (ms.map PyData.int) = decide (ns = ms)
  | [], [] => rfl
  | [], _ :: _ => by simp [eqvAll]
  | _ :: _, [] => by simp [eqvAll]
  | n :: ns, m :: ms => by
    simp only [List.map_cons, eqvAll, eqv, eqvAll_ints ns ms]
    by_cases h : n = m <;> by_cases h2 : ns = ms <;> simp [h, h2]
theorem eqv_intsL (ns ms : List Int) : PyData.eqv (.list (ns.map .int)) (.list (ms.map .int)) = decide (ns = ms) := by rw [PyData.eqv, eqvAll_ints]
theorem eqv_intsT (ns ms : List Int) : PyData.eqv (.tuple (ns.map .int)) (.tuple (ms.map .int)) = decide (ns = ms) := by rw [PyData.eqv, eqvAll_ints]
theorem dp_all_ints {K : PySem.W.Frag} {H : Hp} : ∀ ns : List Int, DpAll K H (ns.map V.int) (ns.map .int)
  | [] => .nil
  | n :: ns => .cons (.int n) (dp_all_ints ns)
theorem dp_ints {K : PySem.W.Frag} {H : Hp} {a : Addr} {ns : List Int} (h : SqL K H a (ns.map V.int)) : Dp K H (.ref a) (.list (ns.map .int)) := .lst h (dp_all_ints ns)
theorem dp_intsT {K : PySem.W.Frag} {H : Hp} {a : Addr} {ns : List Int} (h : SqT K H a (ns.map V.int)) : Dp K H (.ref a) (.tuple (ns.map .int)) := .tup h (dp_all_ints ns)
/-- two lists of numbers compared -/
theorem s_eqL {K : PySem.W.Frag} {H : Hp} {Q : VK} {a b : Addr} {ns ms : List Int} (h1 : SqL K H a (ns.map V.int)) (h2 : SqL K H b (ms.map V.int)) (q : Q (.bl (decide (ns = ms))) H) : rEqD K (.ref a) (.ref b) H Q :=
  s_eqD (dp_ints h1) (dp_ints h2) (shaped_ints _) (shaped_ints _) (by rw [eqv_intsL]; exact q)
theorem s_neL {K : PySem.W.Frag} {H : Hp} {Q : VK} {a b : Addr} {ns ms : List Int} (h1 : SqL K H a (ns.map V.int)) (h2 : SqL K H b (ms.map V.int)) (q : Q (.bl (!decide (ns = ms))) H) : rNeD K (.ref a) (.ref b) H Q :=
  ⟨_, _, dp_ints h1, dp_ints h2, shaped_ints _, shaped_ints _, by rw [eqv_intsL]; exact q⟩
theorem s_eqT {K : PySem.W.Frag} {H : Hp} {Q : VK} {a b : Addr} {ns ms : List Int} (h1 : SqT K H a (ns.map V.int)) (h2 : SqT K H b (ms.map V.int)) (q : Q (.bl (decide (ns = ms))) H) : rEqD K (.ref a) (.ref b) H Q :=
  s_eqD (dp_intsT h1) (dp_intsT h2) (shaped_intsT _) (shaped_intsT _) (by rw [eqv_intsT]; exact q)
theorem s_neT {K : PySem.W.Frag} {H : Hp} {Q : VK} {a b : Addr} {ns ms : List Int} (h1 : SqT K H a (ns.map V.int)) (h2 : SqT K H b (ms.map V.int)) (q : Q (.bl (!decide (ns = ms))) H) : rNeD K (.ref a) (.ref b) H Q :=
  ⟨_, _, dp_intsT h1, dp_intsT h2, shaped_intsT _, shaped_intsT _, by rw [eqv_intsT]; exact q⟩
theorem rep_int (n k : Nat) (b : Int) : (List.replicate n [V.int b]).flatten = (List.replicate n b).map V.int := by induction n <;> simp_all [List.replicate_succ]
theorem get_int {ns : List Int} {i : Nat} (h : i < ns.length) : (ns.map V.int)[i]? = some (V.int ns[i]) := by simp [h]
/-- what a call left behind: a new thing that stands still from now on -/
theorem Stp.got {S : Addr → Prop} {F H H' : Hp} {p : Addr} {o : HO} (h : Same F H) (s : Same H H') (hn : H p = none) (hp : H' p = some o) : Stp S F H (upd F p o) H' := by
  have fp : F p = none := h.free hn
  refine ⟨fun b u e => by rw [upd_ne (ne_of_none e fp)]; exact e, fun b u e => ?_, fun b u e => by rw [upd_ne (ne_of_none e hn)], fun b u _ e => s b u e, fun b u e => ⟨u, s b u e⟩⟩
  by_cases q : b = p
  · subst q; rw [upd_same] at e; cases e; exact hp
  · rw [upd_ne q] at e; exact s b u (h b u e)
open PyData in
theorem depthAll_bools : ∀ ns : List Bool, depthAll (ns.map PyData.bool) ≤ 1
  | [] => by simp [depthAll]
  | n :: ns => by
    have := depthAll_bools ns
    simp only [List.map_cons, depthAll, depth]
    omega
open PyData in
theorem canLay_bools : ∀ ns : List Bool, canLayAll0 (ns.map PyData.bool) = true
  | [] => rfl
  | n :: ns => by simp [canLayAll0, canLay0, canLay_bools ns]
theorem shaped_bools (ns : List Bool) : SeqAt.shaped (.list (ns.map .bool)) = true := by
  have h := depthAll_bools ns
  have e : (PyData.list (ns.map .bool)).depth = PyData.depthAll (ns.map .bool) + 1 := by rw [PyData.depth]
  exact Bool.and_eq_true_iff.mpr ⟨by rw [PyData.canLay0]; exact canLay_bools ns, decide_eq_true (by rw [e]; omega)⟩
open PyData in
theorem eqvAll_bools : ∀ ns ms : List Bool, eqvAll (ns.map PyData.bool) (ms.map PyData.bool) = decide (ns = ms)
  | [], [] => rfl
  | [], _ :: _ => by simp [eqvAll]
  | _ :: _, [] => by simp [eqvAll]
  | n :: ns, m :: ms => by
    simp only [List.map_cons, eqvAll, eqv, eqvAll_bools ns ms]
    by_cases h : n = m <;> by_cases h2 : ns = ms <;> simp [h, h2]
theorem eqv_boolsL (ns ms : List Bool) : PyData.eqv (.list (ns.map .bool)) (.list (ms.map .bool)) = decide (ns = ms) := by rw [PyData.eqv, eqvAll_bools]
theorem dp_all_bools {K : PySem.W.Frag} {H : Hp} : ∀ ns : List Bool, DpAll K H (ns.map V.bl) (ns.map .bool)
  | [] => .nil
  | n :: ns => .cons (.bl n) (dp_all_bools ns)
theorem dp_bools {K : PySem.W.Frag} {H : Hp} {a : Addr} {ns : List Bool} (h : SqL K H a (ns.map V.bl)) : Dp K H (.ref a) (.list (ns.map .bool)) := .lst h (dp_all_bools ns)
theorem s_neB {K : PySem.W.Frag} {H : Hp} {Q : VK} {a b : Addr} {ns ms : List Bool} (h1 : SqL K H a (ns.map V.bl)) (h2 : SqL K H b (ms.map V.bl)) (q : Q (.bl (!decide (ns = ms))) H) : rNeD K (.ref a) (.ref b) H Q :=
  ⟨_, _, dp_bools h1, dp_bools h2, shaped_bools _, shaped_bools _, by rw [eqv_boolsL]; exact q⟩
theorem eqV_int (i j : Int) : eqV (.int i) (.int j) = decide (i = j) := by
  show (i == j) = decide (i = j)
  by_cases h : i = j <;> simp [h]
theorem inV_ints (x : Int) (ns : List Int) : inV (.int x) (ns.map V.int) = decide (x ∈ ns) := by
  unfold inV
  induction ns with
  | nil => simp
  | cons n ns ih =>
    rw [List.map_cons, List.any_cons, ih, eqV_int]
    by_cases h : n = x
    · subst h; simp
    · by_cases h2 : x ∈ ns
      · simp [h2]
      · have : ¬ x = n := fun z => h z.symm
        simp [h, h2, this]
theorem flat_ints (ns : List Int) : (ns.map V.int).all flatV = true := by
  rw [List.all_eq_true]; intro v hv
  obtain ⟨n, _, rfl⟩ := List.mem_map.mp hv
  rfl
/-- a number in a list of numbers -/
theorem s_inI {K : PySem.W.Frag} {H : Hp} {Q : VK} {a : Addr} {ns : List Int} {x : Int} (h : SqL K H a (ns.map V.int)) (q : Q (.bl (decide (x ∈ ns))) H) : rIn K false (.int x) (.ref a) H Q :=
  ⟨a, _, rfl, .inl h, rfl, flat_ints ns, by rw [if_neg (by decide), inV_ints]; exact q⟩
theorem cutV_nat (xs : List V) (i j : Nat) : cutV xs (some (i : Int)) (some (j : Int)) = (xs.drop i).take (j - i) := by
  unfold cutV
  rw [HT.sIx_nat, HT.sIx_nat]
  by_cases h : i ≤ xs.length
  · rw [Nat.min_eq_left h]
    by_cases h2 : j ≤ xs.length
    · rw [Nat.min_eq_left h2]
    · rw [Nat.min_eq_right (by omega), List.take_of_length_le (by simp), List.take_of_length_le (by simp; omega)]
  · rw [Nat.min_eq_right (show xs.length ≤ i by omega), List.drop_of_length_le (Nat.le_refl _), List.drop_of_length_le (by omega)]; simp
theorem cutV_from (xs : List V) (i : Nat) : cutV xs (some (i : Int)) none = xs.drop i := by
  unfold cutV
  rw [HT.sIx_nat, HT.sIx_none]
  by_cases h : i ≤ xs.length
  · rw [Nat.min_eq_left h, List.take_of_length_le (by simp)]
  · rw [Nat.min_eq_right (by omega), List.drop_of_length_le (by omega), List.drop_of_length_le (by omega)]; simp
theorem cutV_to (xs : List V) (j : Nat) : cutV xs none (some (j : Int)) = xs.take j := by
  unfold cutV
  rw [HT.sIx_nat, HT.sIx_none]
  by_cases h2 : j ≤ xs.length
  · rw [Nat.min_eq_left h2]; simp
  · rw [Nat.min_eq_right (by omega), List.take_of_length_le (by simp), List.take_of_length_le (by omega)]; simp
/-- values without parts, as data -/
def toD : V → PyData
  | .bl b => .bool b
  | .int i => .int i
  | .str s => .str s
  | _ => .none
def flatW (v : V) : Bool := match v with
  | .non => true
  | .bl _ => true
  | .int _ => true
  | .str s => PyData.strOk s
  | _ => false
theorem dp_flat {K : PySem.W.Frag} {H : Hp} {v : V} (h : flatW v = true) : Dp K H v (toD v) := by
  cases v with
  | non => exact .non
  | bl b => exact .bl b
  | int i => exact .int i
  | str s => exact .str s
  | _ => cases h
theorem dp_flats {K : PySem.W.Frag} {H : Hp} : ∀ {vs : List V}, vs.all flatW = true → DpAll K H vs (vs.map toD)
  | [], _ => .nil
  | v :: vs, h => by
    rw [List.all_cons, Bool.and_eq_true] at h
    exact .cons (dp_flat h.1) (dp_flats h.2)
open PyData in
theorem depthAll_flat : ∀ vs : List V, depthAll (vs.map toD) ≤ 1
  | [] => by simp [depthAll]
  | n :: ns => by
    have := depthAll_flat ns
    have e : depth (toD n) = 0 := by cases n <;> simp [toD, depth]
    simp only [List.map_cons, depthAll, e]
    omega
open PyData in
theorem canLay_flat : ∀ vs : List V, vs.all flatW = true → canLayAll0 (vs.map toD) = true
  | [], _ => rfl
  | n :: ns, h => by
    rw [List.all_cons, Bool.and_eq_true] at h
    have e : canLay0 (toD n) = true := by
      cases n with
      | str s => exact h.1
      | _ => rfl
    simp [canLayAll0, e, canLay_flat ns h.2]
theorem shaped_flatT {vs : List V} (h : vs.all flatW = true) : SeqAt.shaped (.tuple (vs.map toD)) = true := by
  have h1 := depthAll_flat vs
  have e : (PyData.tuple (vs.map toD)).depth = PyData.depthAll (vs.map toD) + 1 := by rw [PyData.depth]
  exact Bool.and_eq_true_iff.mpr ⟨by rw [PyData.canLay0]; exact canLay_flat vs h, decide_eq_true (by rw [e]; omega)⟩
/-- two equal tuples compared -/
theorem s_neTs {K : PySem.W.Frag} {H : Hp} {Q : VK} {a b : Addr} {vs : List V} (h1 : SqT K H a vs) (h2 : SqT K H b vs) (f : vs.all flatW = true) (q : Q (.bl false) H) : rNeD K (.ref a) (.ref b) H Q :=
  ⟨_, _, .tup h1 (dp_flats f), .tup h2 (dp_flats f), shaped_flatT f, shaped_flatT f, by rw [SeqAt.eqv_refl _ (SeqAt.canLay_of_shaped (shaped_flatT f))]; exact q⟩
theorem s_eqTs {K : PySem.W.Frag} {H : Hp} {Q : VK} {a b : Addr} {vs : List V} (h1 : SqT K H a vs) (h2 : SqT K H b vs) (f : vs.all flatW = true) (q : Q (.bl true) H) : rEqD K (.ref a) (.ref b) H Q :=
  ⟨_, _, .tup h1 (dp_flats f), .tup h2 (dp_flats f), shaped_flatT f, shaped_flatT f, by rw [SeqAt.eqv_refl _ (SeqAt.canLay_of_shaped (shaped_flatT f))]; exact q⟩
/-- a written list of one thing, so many times -/
theorem s_rep {H : Hp} {Q : VK} {l : Addr} {v : V} {k : Int} (h : H l = some (.lst [v])) (k1 : k ≤ 100000) (k0 : -100000 ≤ k) (q : ∀ p, H p = none → Q (.ref p) (upd H p (.lst (List.replicate k.toNat v)))) : rRep (.ref l) (.int k) H Q := by
  have e : (List.replicate k.toNat [v]).flatten = List.replicate k.toNat v := by
    generalize k.toNat = n
    induction n with
    | zero => rfl
    | succ n ih => rw [List.replicate_succ, List.flatten_cons, ih]; rfl
  have hz : 1 * k.toNat ≤ sizeLine := by rw [Nat.one_mul]; exact sz (by omega)
  exact ⟨l, k, [v], rfl, rfl, h, by omega, by omega, hz, fun p hp => by rw [e]; exact q p hp⟩
/-- lists of lists of numbers -/
def RowV (K : PySem.W.Frag) (H : Hp) (v : V) (l : List Int) : Prop := ∃ a, v = .ref a ∧ SqL K H a (l.map V.int)
inductive RowsV (K : PySem.W.Frag) (H : Hp) : List V → List (List Int) → Prop
  | nil : RowsV K H [] []
  | cons {v : V} {vs : List V} {l : List Int} {ls : List (List Int)} : RowV K H v l → RowsV K H vs ls → RowsV K H (v :: vs) (l :: ls)
theorem RowsV.dp {K : PySem.W.Frag} {H : Hp} : ∀ {vs : List V} {ls : List (List Int)}, RowsV K H vs ls → DpAll K H vs (ls.map fun l => .list (l.map .int))
  | _, _, .nil => .nil
  | _, _, .cons ⟨a, e, h⟩ r => .cons (e ▸ dp_ints h) r.dp
open PyData in
theorem depthAll_rows : ∀ ls : List (List Int), depthAll (ls.map fun l => PyData.list (l.map .int)) ≤ 2
  | [] => by simp [depthAll]
  | l :: ls => by
    have h1 := depthAll_rows ls
    have h2 := depthAll_ints l
    simp only [List.map_cons, depthAll, depth]
    omega
open PyData in
theorem canLay_rows : ∀ ls : List (List Int), canLayAll0 (ls.map fun l => PyData.list (l.map .int)) = true
  | [] => rfl
  | l :: ls => by simp [canLayAll0, canLay0, canLay_ints, canLay_rows ls]
theorem shaped_rows (ls : List (List Int)) : SeqAt.shaped (.list (ls.map fun l => .list (l.map .int))) = true := by
  have h := depthAll_rows ls
  have e : (PyData.list (ls.map fun l => PyData.list (l.map .int))).depth = PyData.depthAll (ls.map fun l => PyData.list (l.map .int)) + 1 := by rw [PyData.depth]
  exact Bool.and_eq_true_iff.mpr ⟨by rw [PyData.canLay0]; exact canLay_rows ls, decide_eq_true (by rw [e]; omega)⟩
theorem s_eqRows {K : PySem.W.Frag} {H : Hp} {Q : VK} {a b : Addr} {xs ys : List V} {ls : List (List Int)} (h1 : SqL K H a xs) (h2 : SqL K H b ys) (r1 : RowsV K H xs ls) (r2 : RowsV K H ys ls) (q : Q (.bl true) H) : rEqD K (.ref a) (.ref b) H Q :=
  s_eqD (.lst h1 r1.dp) (.lst h2 r2.dp) (shaped_rows ls) (shaped_rows ls) (by rw [SeqAt.eqv_refl _ (SeqAt.canLay_of_shaped (shaped_rows ls))]; exact q)
theorem s_neRows {K : PySem.W.Frag} {H : Hp} {Q : VK} {a b : Addr} {xs ys : List V} {ls : List (List Int)} (h1 : SqL K H a xs) (h2 : SqL K H b ys) (r1 : RowsV K H xs ls) (r2 : RowsV K H ys ls) (q : Q (.bl false) H) : rNeD K (.ref a) (.ref b) H Q :=
  ⟨_, _, .lst h1 r1.dp, .lst h2 r2.dp, shaped_rows ls, shaped_rows ls, by rw [SeqAt.eqv_refl _ (SeqAt.canLay_of_shaped (shaped_rows ls))]; exact q⟩
/-- lists of flat tuples -/
def TupV (K : PySem.W.Frag) (H : Hp) (v : V) (l : List V) : Prop := ∃ a, v = .ref a ∧ SqT K H a l ∧ l.all flatW = true
inductive TupsV (K : PySem.W.Frag) (H : Hp) : List V → List (List V) → Prop
  | nil : TupsV K H [] []
  | cons {v : V} {vs : List V} {l : List V} {ls : List (List V)} : TupV K H v l → TupsV K H vs ls → TupsV K H (v :: vs) (l :: ls)
theorem TupsV.dp {K : PySem.W.Frag} {H : Hp} : ∀ {vs : List V} {ls : List (List V)}, TupsV K H vs ls → DpAll K H vs (ls.map fun l => .tuple (l.map toD))
  | _, _, .nil => .nil
  | _, _, .cons ⟨_, e, h, f⟩ r => .cons (e ▸ .tup h (dp_flats f)) r.dp
open PyData in
theorem depthAll_tups : ∀ ls : List (List V), depthAll (ls.map fun l => PyData.tuple (l.map toD)) ≤ 2
  | [] => by simp [depthAll]
  | l :: ls => by
    have h1 := depthAll_tups ls
    have h2 := depthAll_flat l
    simp only [List.map_cons, depthAll, depth]
    omega
open PyData in
theorem canLay_tups {K : PySem.W.Frag} {H : Hp} : ∀ {vs : List V} {ls : List (List V)}, TupsV K H vs ls → canLayAll0 (ls.map fun l => PyData.tuple (l.map toD)) = true
  | _, _, .nil => rfl
  | _, _, .cons ⟨_, _, _, f⟩ r => by simp [canLayAll0, canLay0, canLay_flat _ f, canLay_tups r]
theorem shaped_tups {K : PySem.W.Frag} {H : Hp} {vs : List V} {ls : List (List V)} (r : TupsV K H vs ls) : SeqAt.shaped (.list (ls.map fun l => .tuple (l.map toD))) = true := by
  have h := depthAll_tups ls
  have e : (PyData.list (ls.map fun l => PyData.tuple (l.map toD))).depth = PyData.depthAll (ls.map fun l => PyData.tuple (l.map toD)) + 1 := by rw [PyData.depth]
  exact Bool.and_eq_true_iff.mpr ⟨by rw [PyData.canLay0]; exact canLay_tups r, decide_eq_true (by rw [e]; omega)⟩
theorem s_eqTups {K : PySem.W.Frag} {H : Hp} {Q : VK} {a b : Addr} {xs ys : List V} {ls : List (List V)} (h1 : SqL K H a xs) (h2 : SqL K H b ys) (r1 : TupsV K H xs ls) (r2 : TupsV K H ys ls) (q : Q (.bl true) H) : rEqD K (.ref a) (.ref b) H Q :=
  s_eqD (.lst h1 r1.dp) (.lst h2 r2.dp) (shaped_tups r1) (shaped_tups r2) (by rw [SeqAt.eqv_refl _ (SeqAt.canLay_of_shaped (shaped_tups r1))]; exact q)
theorem s_neTups {K : PySem.W.Frag} {H : Hp} {Q : VK} {a b : Addr} {xs ys : List V} {ls : List (List V)} (h1 : SqL K H a xs) (h2 : SqL K H b ys) (r1 : TupsV K H xs ls) (r2 : TupsV K H ys ls) (q : Q (.bl false) H) : rNeD K (.ref a) (.ref b) H Q :=
  ⟨_, _, .lst h1 r1.dp, .lst h2 r2.dp, shaped_tups r1, shaped_tups r2, by rw [SeqAt.eqv_refl _ (SeqAt.canLay_of_shaped (shaped_tups r1))]; exact q⟩
/-! ### a list to draw from: [a great number, a number that is stirred] -/
def Src (F H : Hp) (p : Addr) : Prop := Same F H ∧ F p = none ∧ ∃ a b : Int, H p = some (.lst [.int a, .int b]) ∧ 0 ≤ b ∧ b < 2147483647
theorem Src.of {F H H' : Hp} {p : Addr} (h : Src F H p) (s : Same H H') : Src F H' p := let ⟨a, b, x, y, e, z⟩ := h; ⟨a.trans s, b, x, y, s _ _ e, z⟩
theorem Src.wr {F H : Hp} {p : Addr} {x y : Int} (h : Src F H p) (y0 : 0 ≤ y) (y1 : y < 2147483647) : Src F (upd H p (.lst [.int x, .int y])) p :=
  ⟨(Stp.wr (S := S1 p) h.1 rfl h.2.1).fh, h.2.1, x, y, upd_same, y0, y1⟩
theorem Src.weak {F F' H : Hp} {p : Addr} (h : Src F' H p) (s : Same F F') : Src F H p := let ⟨a, b, x⟩ := h; ⟨s.trans a, s.free b, x⟩
theorem Src.new {F H : Hp} {p q : Addr} {o : HO} (h : Src F H p) (hq : H q = none) : Src (upd F q o) (upd H q o) p := by
  obtain ⟨a, b, x, y, e, z⟩ := h
  have n : p ≠ q := ne_of_none e hq
  exact ⟨(Stp.new (S := S0) a hq).fh, by rw [upd_ne n]; exact b, x, y, by rw [upd_ne n]; exact e, z⟩
/-- a cell beside it is written -/
theorem Src.upd {F H : Hp} {p q : Addr} {o : HO} (h : Src F H p) (n : q ≠ p) (fq : F q = none) : Src F (upd H q o) p := by
  obtain ⟨a, b, x, y, e, z⟩ := h
  exact ⟨(Stp.wr (S := S1 q) a rfl fq).fh, b, x, y, by rw [upd_ne n.symm]; exact e, z⟩
theorem Src.dom {F H : Hp} {p : Addr} (h : Src F H p) : ∃ o, H p = some o := let ⟨_, _, x, y, e, _⟩ := h; ⟨_, e⟩
theorem Src.frz {F H : Hp} {p d : Addr} {o : HO} (h : Src F H p) (n : p ≠ d) (fh : Same (L2.upd F d o) H) : Src (L2.upd F d o) H p := by
  obtain ⟨a, b, x, y, e, z⟩ := h
  exact ⟨fh, by rw [upd_ne n]; exact b, x, y, e, z⟩
theorem Src.ne {F H : Hp} {p d : Addr} (h : Src F H p) (hd : H d = none) : p ≠ d := by
  obtain ⟨o, e⟩ := h.dom
  exact ne_of_none e hd
/-- behind a draw: what stands beside the cell is as it was -/
def Drawn (p : Addr) (F H H' : Hp) : Prop := Src F H' p ∧ Stp (S1 p) F H F H'
section SecFmt
open PySem PySem.Spec PyProof.Rows L2
/-- the binary digits of a number that is not negative, as a text -/
def binText (n : Nat) : Str := ⟨((Nat.toDigits 2 n).map Char.toNat).toArray⟩
def fB : Builtin.Float.FormatSpec := { align := 62, type := some 98 }
theorem parseB : Builtin.Float.parseFormatSpec (Str.ofString "b").cps.toList "int" 62 = Except.ok fB := by rfl
section
variable {prog : Program} {w : World} {A : Around} {E : Value → Shared → Prop} {s : Shared}
theorem ite_no {β : Type} {M : Model} {c : Prop} [Decidable c] {x y : Sem β} {Q : β → Shared → Prop} (h : ¬ c) (q : wpAny M A y Q E s) : wpAny M A (if c then x else y) Q E s := by rw [if_neg h]; exact q
theorem field_b {a : Int} {t : Tok} {Q : Value → Shared → Prop} (h0 : 0 ≤ a) (hl : (Nat.toDigits 2 a.natAbs).length ≤ 100000)
    (h : Q (.str (binText a.natAbs) (s.toks + 1)) { s with toks := s.toks + 1 + 1 }) : wpAny (model prog w) A (formatField (.int a t) (Str.ofString "b")) Q E s := by
  show wpAny _ _ (holding [.int a t] (pyFormat (.int a t) (Str.ofString "b"))) Q E s
  refine wpAny_holding ?_
  unfold pyFormat
  refine wpAny_bind (wpAny_mkStr ?_ (by decide))
  refine wpAny_bind (m := callSpecial? (.int a t) (Str.ofString "__format__") [.str (Str.ofString "b") s.toks])
    (wpAny_callSpecial?_slot (name := Str.ofString "__format__") (typeIs_int _ a t) slot_int_format ?_)
  refine wpAny_call (codeAny_call_builtin slot_int_format.plain entry_int_format
    (slot_int_format.check _ _ _ _ _ _ _ _ (typeIs_int _ a t) (args_int_format _ _) ?_))
  have hne : ((Str.ofString "b").length == 0) = false := by decide
  have hasc : (((Str.ofString "b").cps.toList.drop 1).any (· ≥ 128) || ((Str.ofString "b").cps.getD 0 0 ≥ 128 && !([60, 62, 61, 94] : List Nat).contains ((Str.ofString "b").cps.getD 1 0))) = false := by decide
  unfold Builtin.«int.__format__»
  simp only [selfAndOne, noKeywords, Builtin.Int.intOfSelf, asInt?, asStr?, List.isEmpty_nil, if_true, pure_bind, bind_pure, bind_assoc, hne, hasc, Bool.false_eq_true,
    if_false, show (Value.str (Str.ofString "b") s.toks == Value.none) = false from rfl]
  refine wpAny_bind (wpAny_typeNameOf (T := "str") (typeIs_str _ _ _) (by decide) fun _ => ?_)
  first | refine wpAny_bind (wpAny_typeNameOfCut_int ?_) | refine wpAny_bind (wpAny_typeNameOf_int ?_)
  simp only [parseB, fB]
  rw [if_pos (by decide)]
  simp only [Option.getD_some]
  show wpAny _ _ (retStr _) _ _ _
  unfold retStr
  have key : ∀ (x : Str), x = binText a.natAbs → x.length ≤ sizeLine ∧ Q (.str x (s.toks + 1)) { s with toks := s.toks + 1 + 1 } := fun x e => by
    subst e
    exact ⟨Nat.le_trans (by simpa [binText, Str.length] using hl) (by decide), h⟩
  refine wpAny_bind (wpAny_mkStr (wpAny_pure ?_) (key _ ?hs2).1)
  case hs2 =>
    conv => lhs; whnf
    have hneg : decide (a < 0) = false := by simpa using h0
    simp [hneg, binText]
  dsimp only
  refine wpAny_bind (wpAny_isInstance (typeIs_str _ _ _) isSubtype_str_str (wpAny_pure ?_))
  refine (key _ ?_).2
  conv => lhs; whnf
  have hneg : decide (a < 0) = false := by simpa using h0
  simp [hneg, binText]
end
section
variable {X : Cx}
/-- {n:b} -/
def tFmtB (te : TE) : TE := fun σ H Q => te σ H fun x H1 => ∃ i : Int, x = .int i ∧ 0 ≤ i ∧ (Nat.toDigits 2 i.natAbs).length ≤ 100000 ∧ Q (.str (binText i.natAbs)) H1
theorem pe_fmtB {e : Expr} {te : TE} {k : Nat} {p1 p2 pos : Pos} (he : PE X e te) : PE X (.FormattedValue e (-1) (some (.JoinedStr [.Constant (.str "b") k p1] p2)) pos) (tFmtB te) := by
  refine ⟨fun pins s σ H Q I h => ?_⟩
  refine wpAny_FormattedValue_spec (thn (he.run pins s σ H _ I h) fun v s1 hv => ?_)
  obtain ⟨x, H1, I1, r1, i, rfl, h0, hl, q⟩ := hv
  obtain ⟨t, rfl⟩ := r1
  have hp : PE X (.JoinedStr [.Constant (.str "b") k p1] p2) (tC (.str "b")) := pe_joined1 pe_str
  refine thn (hp.run pins s1 σ H1 (fun v H' => v = .str "b" ∧ H' = H1) I1 ⟨rfl, rfl⟩) fun r s2 hr => ?_
  obtain ⟨y, H2, I2, r2, rfl, rfl⟩ := hr
  obtain ⟨u, rfl⟩ := r2
  exact ⟨_, _, rfl, field_b h0 hl ⟨.str (binText i.natAbs), H2, I2.tok _, ⟨_, rfl⟩, q⟩⟩
end
end SecFmt
section SecBits
open PySem PySem.Spec PyProof.Rows L2
/-! ### binary digits -/
/-- the w lowest binary digits of n, the highest first -/
def fixL : Nat → Nat → List Int
  | 0, _ => []
  | w + 1, n => fixL w (n / 2) ++ [((n % 2 : Nat) : Int)]
theorem fixL_len : ∀ (w n : Nat), (fixL w n).length = w
  | 0, _ => rfl
  | w + 1, n => by rw [fixL, List.length_append, fixL_len w]; rfl
def isBit (b : Int) : Prop := b = 0 ∨ b = 1
theorem fixL_bit : ∀ (w n : Nat), ∀ b ∈ fixL w n, isBit b
  | 0, _, b, h => by simp [fixL] at h
  | w + 1, n, b, h => by
    rw [fixL, List.mem_append] at h
    rcases h with h | h
    · exact fixL_bit w _ b h
    · have : b = ((n % 2 : Nat) : Int) := by simpa using h
      have h2 : n % 2 < 2 := Nat.mod_lt _ (by decide)
      unfold isBit; omega
def code (b : Int) : Nat := (48 + b).toNat
def digs (n : Nat) : List Nat := (Nat.toDigits 2 n).map Char.toNat
theorem digs_small {n : Nat} (h : n < 2) : digs n = [48 + n] := by
  unfold digs; rw [Nat.toDigits_of_lt_base h]
  rcases (by omega : n = 0 ∨ n = 1) with rfl | rfl <;> rfl
theorem digs_step {n : Nat} (h : 2 ≤ n) : digs n = digs (n / 2) ++ [48 + n % 2] := by
  unfold digs; rw [Nat.toDigits_of_base_le (by decide) h, List.map_append]
  congr 1
  rcases (by omega : n % 2 = 0 ∨ n % 2 = 1) with e | e <;> rw [e] <;> rfl
theorem fixL_zero : ∀ w, (fixL w 0).map code = List.replicate w 48
  | 0 => rfl
  | w + 1 => by rw [fixL, List.map_append, fixL_zero w, List.replicate_succ']; rfl
theorem digs_fix : ∀ (w n : Nat), n < 2 ^ (w + 1) → (digs n).length ≤ w + 1 ∧ List.replicate (w + 1 - (digs n).length) 48 ++ digs n = (fixL (w + 1) n).map code
  | 0, n, h => by
    have h2 : n < 2 := by simpa using h
    rw [digs_small h2]
    rcases (by omega : n = 0 ∨ n = 1) with rfl | rfl <;> exact ⟨by decide, by decide⟩
  | w + 1, n, h => by
    by_cases h2 : n < 2
    · rw [digs_small h2]
      refine ⟨by simp, ?_⟩
      rw [fixL, List.map_append, show n / 2 = 0 by omega, fixL_zero]
      show List.replicate (w + 1) 48 ++ [48 + n] = _
      congr 1
      rcases (by omega : n = 0 ∨ n = 1) with rfl | rfl <;> rfl
    · have hp : n / 2 < 2 ^ (w + 1) := by rw [Nat.pow_succ] at h; omega
      obtain ⟨h3, h4⟩ := digs_fix w (n / 2) hp
      rw [digs_step (by omega), fixL, List.map_append, ← h4]
      refine ⟨by simp; omega, ?_⟩
      rw [List.length_append, List.length_singleton, show w + 1 + 1 - ((digs (n / 2)).length + 1) = w + 1 - (digs (n / 2)).length by omega, List.append_assoc]
      congr 2
theorem digs_head {n : Nat} : (digs n)[0]? = some 48 ∨ (digs n)[0]? = some 49 := by
  induction n using Nat.strongRecOn with
  | ind n ih =>
    by_cases h : n < 2
    · rw [digs_small h]; rcases (by omega : n = 0 ∨ n = 1) with rfl | rfl <;> simp
    · rw [digs_step (by omega)]
      have := ih (n / 2) (by omega)
      have hl : 0 < (digs (n / 2)).length := by
        cases e : digs (n / 2) with
        | nil => rw [e] at this; simp at this
        | cons => simp
      rw [List.getElem?_append_left hl]; exact this
theorem zfill_bin {w n : Nat} (h : n < 2 ^ (w + 1)) : (Txt.zfill (binText n) ((w + 1 : Nat) : Int)).cps.toList = (fixL (w + 1) n).map code := by
  obtain ⟨h1, h2⟩ := digs_fix w n h
  have hl : (binText n).length = (digs n).length := by simp [binText, Str.length, digs]
  have hc : (binText n).cps.toList = digs n := by simp [binText, digs]
  unfold Txt.zfill
  by_cases q : (((w + 1 : Nat) : Int) ≤ ((binText n).length : Int))
  · rw [if_pos q, hc, ← h2, show w + 1 - (digs n).length = 0 by omega]; rfl
  · rw [if_neg q]
    have e0 : ∀ x, (binText n).cps[0]? = some x → x ≠ 43 ∧ x ≠ 45 := fun x hx => by
      have : (digs n)[0]? = some x := by rw [← hc]; simpa using hx
      rcases digs_head (n := n) with z | z <;> rw [z] at this <;> cases this <;> decide
    unfold zfilled
    split
    · rename_i hx; exact absurd rfl (e0 _ hx).1
    · rename_i hx; exact absurd rfl (e0 _ hx).2
    · show (Array.replicate _ 48 ++ (binText n).cps ++ Array.replicate 0 48).toList = _
      rw [← h2]
      simp [hc, hl]
theorem bits_le {w n : Nat} (h : n < 2 ^ (w + 1)) : (Nat.toDigits 2 n).length ≤ w + 1 := by
  have := (digs_fix w n h).1
  simpa [digs] using this
theorem intBits_le {n : Int} {w : Nat} (h0 : 0 ≤ n) : (Builtin.Int.intBits n : Nat) ≤ w ↔ n.toNat < 2 ^ w := by
  unfold Builtin.Int.intBits
  by_cases h : n = 0
  · subst h; simp [Nat.two_pow_pos]
  · rw [if_neg (by simpa using h)]
    have e : n.natAbs = n.toNat := by omega
    rw [e, ← Nat.log2_lt (by omega : n.toNat ≠ 0)]
    omega
/-- the number of a list of digits, the highest first -/
def numL (bs : List Int) : Int := bs.foldl (fun a b => 2 * a + b) 0
theorem numL_snoc (bs : List Int) (b : Int) : numL (bs ++ [b]) = 2 * numL bs + b := by simp [numL, List.foldl_append]
theorem num_fixL : ∀ (w n : Nat), n < 2 ^ w → numL (fixL w n) = (n : Int)
  | 0, n, h => by
    have : n = 0 := by simpa using h
    subst this; rfl
  | w + 1, n, h => by
    rw [fixL, numL_snoc, num_fixL w (n / 2) (by rw [Nat.pow_succ] at h; omega)]
    omega
theorem code_bit {b : Int} (h : isBit b) : code b = 48 ∨ code b = 49 := by rcases h with rfl | rfl <;> decide
theorem text_bit {b : Int} (h : isBit b) : PySem.intText? ⟨#[code b]⟩ = some b := by rcases h with rfl | rfl <;> decide +kernel
/-- the digit at a place -/
theorem fixL_at : ∀ (w n i : Nat), i < w → (fixL w n)[i]? = some ((n / 2 ^ (w - 1 - i) % 2 : Nat) : Int)
  | 0, _, _, h => by omega
  | w + 1, n, i, h => by
    rw [fixL]
    by_cases hi : i < w
    · rw [List.getElem?_append_left (by rw [fixL_len]; exact hi), fixL_at w (n / 2) i hi]
      congr 3
      rw [Nat.div_div_eq_div_mul, show w + 1 - 1 - i = (w - 1 - i) + 1 by omega, Nat.pow_succ, Nat.mul_comm]
    · have : i = w := by omega
      subst this
      rw [List.getElem?_append_right (by rw [fixL_len]; exact Nat.le_refl _), fixL_len]
      simp
end SecBits
theorem s_fmtB {σ : L2.St} {H : Hp} {Q : VK} {te : TE} (h : te σ H fun x H1 => ∃ i : Int, x = .int i ∧ 0 ≤ i ∧ (Nat.toDigits 2 i.natAbs).length ≤ 100000 ∧ Q (.str (binText i.natAbs)) H1) : tFmtB te σ H Q := h
section ExcS
open PyProof.Rows
/-! ### own exception classes -/
def exA (mg : Str → Option Value) (x : Str) : Addr := match mg x with
  | some (.ref a) => a
  | _ => 0
theorem exA_of {mg : Str → Option Value} {x : Str} {a : Addr} (h : mg x = some (.ref a)) : exA mg x = a := by unfold exA; rw [h]
structure ExF (K : PySem.W.Frag) (mg : Str → Option Value) (nm : Str) : Prop where
  g : mg nm = some (.ref (exA mg nm))
  x : PySem.W.excIn K (exA mg nm) [.type "ValueError", .type "Exception", .type "BaseException", .type "object"] "ValueError.__new__" = true
  k : PySem.W.keepIn K (.ref (exA mg nm)) = true
  b : PySem.W.subIn K (.ref (exA mg nm)) (.type "BaseException") = some true
  t : PySem.W.typeIn K (.ref (exA mg nm)) = some (.type "type")
  c : ExcC K (exA mg nm)
theorem ExF.mk' {K : PySem.W.Frag} {mg : Str → Option Value} {nm : Str} {C : Addr} (g : mg nm = some (.ref C))
    (x : PySem.W.excIn K C [.type "ValueError", .type "Exception", .type "BaseException", .type "object"] "ValueError.__new__" = true) (k : PySem.W.keepIn K (.ref C) = true)
    (b : PySem.W.subIn K (.ref C) (.type "BaseException") = some true) (t : PySem.W.typeIn K (.ref C) = some (.type "type"))
    (hg : PySem.W.findIn K (.ref C) "__getattribute__" = some (some (.builtin "BaseException.__getattribute__")))
    (hk : PySem.W.findIn K (.ref C) "__getattr__" = some none)
    (hd : PySem.W.hasDictIn K C = true)
    (ha : PySem.W.findIn K (.ref C) "__class__" = some (some (.builtin "object.__class__")))
    (hn : PySem.W.specialIn K (.builtin "object.__class__") "__get__" = some (some (.builtin "getset_descriptor.__get__")))
    (ht : PySem.W.takesIn K (.builtin "object.__class__") = some true)
    (hm : PySem.W.mroIn K C (.type "object") = some true) : ExF K mg nm := by
  have e := exA_of g
  exact ⟨by rw [e]; exact g, by rw [e]; exact x, by rw [e]; exact k, by rw [e]; exact b, by rw [e]; exact t, by rw [e]; exact ⟨hg, hk, b, hd, ha, hn, ht, hm⟩⟩
theorem ExF.exm {K : PySem.W.Frag} {mg : Str → Option Value} {nm : Str} (h : ExF K mg nm) {cls : Value} {b : Bool} (s : PySem.W.subIn K cls (.ref (exA mg nm)) = some b) : PySem.W.exmOne K cls (.ref (exA mg nm)) = some b := PySem.W.exm_ref h.b h.c.hd h.t s
section
variable {X : Cx} {C : Addr} {bmB : List Value} {B newId initId : String}
open PySem.W in
/-- isinstance against an own class, by the order of the classes -/
theorem kit_own {K : Frag} {a C : Addr} {b : Bool} (hd : hasDictIn K C = true) (ht : typeIn K (.ref C) = some (.type "type")) (h : subIn K (.ref a) (.ref C) = some b) (s : subIn K (.ref a) (.ref a) = some true) : kitOne K (.ref a) (.ref C) = some b := by
  obtain ⟨cd, hc, _⟩ := any_some hd
  have e2 : ((clsIn K C).isSome && typeIn K (.ref C) == some (.type "type")) = true := by rw [hc, ht]; rfl
  unfold kitOne
  by_cases q : a = C
  · subst q
    rw [if_pos (by simp), ← h, s]
  · rw [if_neg (by simpa using q)]
    show (if ((clsIn K C).isSome && typeIn K (.ref C) == some (.type "type")) = true then subIn K (.ref a) (.ref C) else none) = some b
    rw [if_pos e2, h]
open PySem.W in
theorem kit_val {K : Frag} {a : Addr} (h : subIn K (.ref a) (.type "ValueError") = some true) : kitOne K (.ref a) (.type "ValueError") = some true := by
  unfold kitOne
  rw [if_neg (by simp)]
  show (if kitMeta "ValueError" = true then subIn K (.ref a) (.type "ValueError") else none) = some true
  rw [if_pos (by decide +kernel), h]
/-- X() -/
theorem pmk_own0 {x : Str} {p pos : Pos} (F : ExcBaseFacts B newId initId bmB) (q : PySem.W.excIn X.K C bmB newId = true) (gC : X.mg x = some (.ref C)) (kC : PySem.W.keepIn X.K (.ref C) = true) (r : Raises X (.ref C)) (hg : Gl X x)
    (hdb : (x == ("__debug__" : Str)) = false := by decide) : PMk X (.Call (.Name x p) [] [] pos) (fun _ H Q => Q (.ref C) none H) := by
  intro pins s σ H Q I h
  refine wpAny_Call_Name_kw (ld_glob I hg gC ?_ hdb)
  refine PySem.W.callWith_K0 I.kIn kC ?_
  obtain ⟨bm, N, nm, qn, bs, hdct, sn, sub, ab, col, dd, k0, k1, k2, k3, k5, mN, hC, hN, hni, T⟩ := exc_obj I.kIn q
  exact wpAny_call_exc_subT F T hC hN hni (fun h' e hm => mk_of I hm r h (I.hok.gone hm.new)) (Nat.zero_le _)
end
/-- isinstance(e, c) in an except suite: e's class is known in the reading -/
def rIsX (K : PySem.W.Frag) (a : Addr) (cls : Value) (d : Option Addr) : List V → Hp → VK → Prop := fun xs H Q => ∃ D, cls = .ref D ∧ d = none ∧ ExcC K D ∧ rIsE K D a xs H Q
theorem call_isX {X : Cx} (K : PySem.W.Frag) (eK : X.K = K) {a : Addr} {cls : Value} {d : Option Addr} {oe : Obj} {pn : List (Addr × Obj)} (hz : Zc cls d oe) (hf : ∃ vs, oe.data = .fields vs) : CallR (X.suite a ((a, oe) :: pn)) (.builtin "isinstance") (rIsX K a cls d) := by
  subst eK
  intro pins s σ H vs us Q I r h
  obtain ⟨D, rfl, rfl, C, q⟩ := h
  exact call_isE C hz hf pins s σ H vs us Q I r q
theorem s_isX {K : PySem.W.Frag} {a D C : Addr} {b : Bool} {H : Hp} {Q : VK} (c : ExcC K D) (k : PySem.W.kitOne K (.ref D) (.ref C) = some b) (q : Q (.bl b) H) : rIsX K a (.ref D) none [.ref a, .ref C] H Q :=
  ⟨D, rfl, rfl, c, .ref C, .ref C, b, rfl, fun _ r => r, k, q⟩
theorem s_isXt {K : PySem.W.Frag} {a D : Addr} {n : String} {b : Bool} {H : Hp} {Q : VK} (c : ExcC K D) (k : PySem.W.kitOne K (.ref D) (.type n) = some b) (q : Q (.bl b) H) : rIsX K a (.ref D) none [.ref a, .ty n] H Q :=
  ⟨D, rfl, rfl, c, .ty n, .type n, b, rfl, fun _ r => r, k, q⟩
theorem s_callS {sp : Sp} {E : L2.St → XK} {t : TA} {σ : L2.St} {H : Hp} {Q : VK} (h : t σ H fun vs H1 => sp vs H1 Q (E σ)) : tCallS sp E t σ H Q := h
theorem cx_none {P : Program} {w : World} {H : Hp} {s : Shared} {e : Value} {s' : Shared} (h : L2.CX P w [] H s (fun _ _ _ => False) e s') : False := by
  obtain ⟨_, _, _, _, _, _, _, _, _, _, _, _, z⟩ := h
  exact z
end ExcS
/-! ### several clauses behind a try, each with a name or without -/
section HandsS
open PySem.Spec PyProof.Rows
def goneD (i : Nat) (D : Ends) : Ends := ⟨fun σ H => D.nx (σ.set i none) H, D.rt, fun σ H => D.bk (σ.set i none) H, fun σ H => D.ct (σ.set i none) H⟩
/-- what the clauses want of an error: the first whose class fits takes it -/
def wH (K : PySem.W.Frag) (out : WX) (D : Ends) : List (Value × Option Nat × (Addr → Value → Option Addr → TS)) → WX
  | [] => out
  | (c, none, ts) :: r => fun cls d σ H => ∃ b, PySem.W.exmOne K cls c = some b ∧ (b = true → ∀ a, H a = none → ts a cls d D σ H) ∧ (b = false → wH K out D r cls d σ H)
  | (c, some i, ts) :: r => fun cls d σ H => ∃ b, PySem.W.exmOne K cls c = some b ∧ (b = true → ∀ a, H a = none → ts a cls d (goneD i D) (σ.set i (some (.ref a))) H) ∧ (b = false → wH K out D r cls d σ H)
inductive HOks (X : Cx) : List ExceptHandler → List (Value × Option Nat × (Addr → Value → Option Addr → TS)) → Prop
  | nil : HOks X [] []
  | anon {x : Str} {c : Value} {ts : Addr → Value → Option Addr → TS} {b₀ : Stmt} {suite : List Stmt} {np pos : Pos} {hds : List ExceptHandler} {l : List (Value × Option Nat × (Addr → Value → Option Addr → TS))} (hc : Names X x c)
      (hsu : ∀ (a : Addr) (oe : Obj) (cls : Value) (d : Option Addr) (pn : List (Addr × Obj)), Zc cls d oe → (∃ vs, oe.data = .fields vs) → PSs (X.suite a ((a, oe) :: pn)) (b₀ :: suite) (ts a cls d)) (r : HOks X hds l) :
      HOks X (.ExceptHandler (some (.Name x np)) none (b₀ :: suite) pos :: hds) ((c, none, ts) :: l)
  | named {x n : Str} {i : Nat} {c : Value} {ts : Addr → Value → Option Addr → TS} {b₀ : Stmt} {suite : List Stmt} {np pos : Pos} {hds : List ExceptHandler} {l : List (Value × Option Nat × (Addr → Value → Option Addr → TS))}
      (hi : X.N[i]? = some n) (hln : X.env.kindOf n = some .local) (hc : Names X x c)
      (hsu : ∀ (a : Addr) (oe : Obj) (cls : Value) (d : Option Addr) (pn : List (Addr × Obj)), Zc cls d oe → (∃ vs, oe.data = .fields vs) → PSs (X.suite a ((a, oe) :: pn)) (b₀ :: suite) (ts a cls d)) (r : HOks X hds l) :
      HOks X (.ExceptHandler (some (.Name x np)) (some n) (b₀ :: suite) pos :: hds) ((c, some i, ts) :: l)
/-- an error that has come down to the frame of a try -/
structure Down (X : Cx) (pins : List (Addr × Obj)) (σ : L2.St) (H : Hp) (cls : Value) (d : Option Addr) (a : Addr) (B : Heap) (sI s : Shared) : Prop where
  at0 : L2.Inv X pins σ H sI
  nb : ∀ (b : Addr) (o : Obj), sI.heap.get? b = some o → ¬ b ∈ frs X.stack → B.get? b = some o
  up : sI.heap.UpToSlots s.heap
  os : s.os = sI.os
  ag : AllBare s.gens
  na : H a = none
  fl : HandSPX.FlyingZ B (X.env :: X.outer) a (Zc cls d) s.heap
variable {X : Cx} {pins : List (Addr × Obj)} {σ : L2.St} {H : Hp} {cls : Value} {d : Option Addr} {a : Addr} {B : Heap} {sI s : Shared}
theorem Down.inv (D : Down X pins σ H cls d a B sI s) : L2.Inv X pins σ H s := D.at0.landed D.nb D.fl.1 D.up D.os D.ag
theorem Down.obj (D : Down X pins σ H cls d a B sI s) (hf : X.env.frame = some X.env.locals) :
    ∃ oe vs, s.heap.get? a = some oe ∧ Zc cls d oe ∧ oe.data = Data.fields vs ∧ L2.Inv (X.suite a ((a, oe) :: (X.pn ++ pins))) [] σ H s := by
  obtain ⟨oe, vs, e, z, dd⟩ := D.fl.there
  have off : a ∉ frs (X.env :: X.outer) := fun hm => by
    obtain ⟨_, o, e', no⟩ := D.fl.2.2.1.mem hm
    rw [e] at e'
    exact no vs ((Option.some.inj e') ▸ dd)
  have n1 : a ≠ X.env.locals := fun z => off (List.mem_filterMap.mpr ⟨X.env, by simp, by rw [hf, z]⟩)
  have n2 : a ∉ X.fs := fun hm => off (by
    obtain ⟨v, hv, q⟩ := List.mem_filterMap.mp hm
    exact List.mem_filterMap.mpr ⟨v, by simp [hv], q⟩)
  exact ⟨oe, vs, e, z, dd, D.inv.suite e dd D.na n1 n2⟩
theorem Down.next (D : Down X pins σ H cls d a B sI s) {h' : Heap} (f : HandSPX.FlyingZ B (X.env :: X.outer) a (Zc cls d) h') (u : s.heap.UpToSlots h') : Down X pins σ H cls d a B sI { s with heap := h' } :=
  ⟨D.at0, D.nb, D.up.trans u, D.os, D.ag, D.na, f⟩
theorem Down.hands (D : Down X pins σ H cls d a B sI s) {W : WX} {E : Ends} (hs : X.stack = X.env :: X.outer) (hf : X.env.frame = some X.env.locals) (hN : X.N.Nodup) (tk : Takes X W) (ok : X.Ok) {hds : List ExceptHandler} {l : List (Value × Option Nat × (Addr → Value → Option Addr → TS))}
    (hh : HOks X hds l) (w : wH X.K W E l cls d σ H) : wpAny (model X.prog X.w) X.A (handleBy (.ref a) X.env hds) (SP X pins E) X.xe s := by
  induction hh with
  | nil =>
    refine wpAny_handleBy_nil ?_
    obtain ⟨_, _, _, oe, vs, T, oT, ts, he, _, hd, h1, _⟩ := id D.fl
    unfold PySem.passOn
    refine wpAny_bind (wpAny_field he hd h1 ?_)
    rw [if_neg (show ¬ ((Value.ref T == Value.none) = true) from by simp)]
    have out : wpAny (model X.prog X.w) X.A (setFlight (.ref a) X.env.frame) (fun _ s4 => wpAny (model X.prog X.w) X.A (throw (.ref a) : Sem Flow) (SP X pins E) X.xe s4) X.xe s := by
      rw [hf]
      exact HandSPX.setFlight_upZ D.fl fun h4 hh4 u4 => wpAny_throw (tk _ _ ⟨a, B, sI, pins, σ, H, cls, d, rfl, D.at0, D.nb, D.up.trans u4, .inr (.inr (by rw [hs]; exact hh4)), D.na, D.os, D.ag, w⟩)
    first
      | exact wpAny_bind (wpAny_pure (wpAny_bind out))
      | exact wpAny_bind out
  | @anon x c ts b₀ suite np pos hds l hc hsu r ih =>
    obtain ⟨b, e1, yes, no⟩ := w
    obtain ⟨oe, vs, he, hz, _, S⟩ := D.obj hf
    refine wpAny_handleBy_cons (codeAny_handlers_test ?_) (by intro q; cases q)
    have ty : PySem.W.Looks (model X.prog X.w) s.heap (typeOf (.ref a)) cls := fun _ _ _ _ k q => wpAny_typeOf_ref (k _ _ he) (by rw [hz.1]; exact q)
    have fits := PySem.W.exm_one (M := model X.prog X.w) D.inv.kIn ty e1
    have name : ∀ {Q E : Value → Shared → Prop}, Q c s → wpAny (model X.prog X.w) (X.A.mark (some (.ref a))) (eval (.Name x np) X.env) Q E s := fun {Q E} q => by
      obtain ⟨g1, g2, g3 | ⟨g3, g4, g5⟩⟩ := hc
      · exact ld_glob (X := X.suite a ((a, oe) :: (X.pn ++ pins))) S g1 g3 q g2
      · exact ld_blt (X := X.suite a ((a, oe) :: (X.pn ++ pins))) S g1 g3 g4 q g5 g2
    refine name (fits.here ?_)
    cases b with
    | false => exact ih (no rfl)
    | true =>
      refine codeAny_handlers_suite (HandSPX.lands_againZ D.fl fun h4 f4 u4 => ?_)
      obtain ⟨oe4, vs4, _, z4, d4, S4⟩ := (D.next f4 u4).obj hf
      refine wpAny_mono ((hsu a oe4 cls d (X.pn ++ pins) z4 ⟨_, d4⟩).run [] _ σ H E S4 (yes rfl a D.na)) (fun f s6 q => ?_) fun _ _ z => z.elim
      cases f with
      | ret u =>
        obtain ⟨v6, σ6, H6, S6, r6, q6⟩ := q
        exact ⟨v6, σ6, H6, S6.unsuite ok, r6, q6⟩
      | _ =>
        obtain ⟨σ6, H6, S6, q6⟩ := q
        exact ⟨σ6, H6, S6.unsuite ok, q6⟩
  | @named x n i c ts b₀ suite np pos hds l hi hln hc hsu r ih =>
    obtain ⟨b, e1, yes, no⟩ := w
    obtain ⟨oe, vs, he, hz, _, S⟩ := D.obj hf
    refine wpAny_handleBy_cons (codeAny_handlers_test ?_) (by intro q; cases q)
    have ty : PySem.W.Looks (model X.prog X.w) s.heap (typeOf (.ref a)) cls := fun _ _ _ _ k q => wpAny_typeOf_ref (k _ _ he) (by rw [hz.1]; exact q)
    have fits := PySem.W.exm_one (M := model X.prog X.w) D.inv.kIn ty e1
    have name : ∀ {Q E : Value → Shared → Prop}, Q c s → wpAny (model X.prog X.w) (X.A.mark (some (.ref a))) (eval (.Name x np) X.env) Q E s := fun {Q E} q => by
      obtain ⟨g1, g2, g3 | ⟨g3, g4, g5⟩⟩ := hc
      · exact ld_glob (X := X.suite a ((a, oe) :: (X.pn ++ pins))) S g1 g3 q g2
      · exact ld_blt (X := X.suite a ((a, oe) :: (X.pn ++ pins))) S g1 g3 g4 q g5 g2
    refine name (fits.here ?_)
    cases b with
    | false => exact ih (no rfl)
    | true =>
      refine codeAny_handlers_suite_as (HandSPX.lands_againZ D.fl fun h4 f4 u4 => ?_)
      obtain ⟨oe4, vs4, _, z4, d4, S4⟩ := (D.next f4 u4).obj hf
      refine store_ok (X := X.suite a ((a, oe4) :: (X.pn ++ pins))) (v := .ref a) S4 hN hi (.inl hln) rfl (fun s5 S5 => ?_) (.inr hln)
      refine wpAny_mono ((hsu a oe4 cls d (X.pn ++ pins) z4 ⟨_, d4⟩).run [] s5 _ H (goneD i E) S5 (yes rfl a D.na)) (fun f s6 q => ?_) fun _ _ z => z.elim
      cases f with
      | ret u =>
        obtain ⟨v6, σ6, H6, S6, r6, q6⟩ := q
        exact gone_ok (S6.unsuite ok) hN hi hln fun s7 J7 => ⟨_, _, _, J7, r6, q6⟩
      | _ =>
        obtain ⟨σ6, H6, S6, q6⟩ := q
        exact gone_ok (S6.unsuite ok) hN hi hln fun s7 J7 => ⟨_, _, J7, q6⟩
/-- try: body, then clauses with names or without -/
theorem ps_tryH {body : List Stmt} {h₀ : ExceptHandler} {hds : List ExceptHandler} {l : List (Value × Option Nat × (Addr → Value → Option Addr → TS))} {W : WX} {tb : WX → TS} {pos : Pos} (hs : X.stack = X.env :: X.outer) (hf : X.env.frame = some X.env.locals) (hN : X.N.Nodup) (tk : Takes X W)
    (hb : ∀ (V : WX) (pn : List (Addr × Obj)) (xe : Value → Shared → Prop), Takes (X.tr pn xe) V → PassesOwn (model X.prog X.w) X.A X.env xe → PSs (X.tr pn xe) body (tb V))
    (hh : HOks X (h₀ :: hds) l) : PS X (.Try body (h₀ :: hds) [] [] pos) (fun D σ H => tb (wH X.K W D l) D σ H) := by
  refine ⟨fun pins s σ H D I h => ?_⟩
  have ok := I.ok
  refine wpAny_Try_except (wpAny_mono ((hb (wH X.K W D l) (X.pn ++ pins) _ (fun u s' xx => ?_) PassesOwn.looking).run [] s σ H D (I.toTry _) h) (fun f s1 q => ?_) fun e s1 he => he)
  · obtain ⟨a, B, sI, pins', σ', H', cls, d, rfl, J', nb, up, sky, na, os, ag, w⟩ := xx
    have sky' : Sky B (X.env :: X.outer) a (Zc cls d) X.env.locals s'.heap := by rw [← hs]; exact sky
    exact Sky.land Zc.steady (by rw [ok.frames, hs]) hf sky' fun h3 f3 u3 => Down.hands (s := { s' with heap := h3 }) ⟨J'.ofTry ok, nb, up.trans u3, os, ag, na, f3⟩ hs hf hN tk ok hh w
  · cases f with
    | next =>
      obtain ⟨σ', H', J', q⟩ := q
      exact wpAny_execs_nil ⟨σ', H', J'.ofTry ok, q⟩
    | ret u =>
      obtain ⟨v, σ', H', J', r, q⟩ := q
      exact ⟨v, σ', H', J'.ofTry ok, r, q⟩
    | _ =>
      obtain ⟨σ', H', J', q⟩ := q
      exact ⟨σ', H', J'.ofTry ok, q⟩
end HandsS
/-! ### codes of counts -/
theorem pad_ok {i : Int} (h : 0 ≤ i ∧ i ≤ 10000) : PadOk i = true := by
  unfold PadOk fitsSsize Builtin.Str.tooLong
  have e : sizeLine = 16777216 := by decide
  simp [e]
  omega
/-- how many binary digits a number has -/
def blen (n : Nat) : Nat := if n = 0 then 0 else n.log2 + 1
theorem blen_lt (n : Nat) : n < 2 ^ blen n := by
  unfold blen
  split
  · subst_vars; decide
  · exact (Nat.log2_lt (by assumption)).mp (Nat.lt_succ_self _)
theorem intBits_blen {n : Int} (h : 0 ≤ n) : (Builtin.Int.intBits n : Nat) = blen n.toNat := by
  unfold Builtin.Int.intBits blen
  by_cases e : n = 0
  · subst e; rfl
  · rw [if_neg (by simpa using e), if_neg (by omega), show n.natAbs = n.toNat by omega]
theorem blen_le {n k : Nat} (h : n < 2 ^ k) : blen n ≤ k := by
  unfold blen
  split
  · omega
  · exact (Nat.log2_lt (by assumption)).mpr h
theorem blen_pos {n : Nat} (h : 0 < n) : 0 < blen n := by unfold blen; rw [if_neg (by omega)]; omega
/-- the code of a count -/
def countL (n : Nat) : List Int := List.replicate (blen (n + 1) - 1) 0 ++ fixL (blen (n + 1)) (n + 1)
def sgn (n : Int) : Nat := if 0 ≤ n then (2 * n).toNat else (-2 * n - 1).toNat
theorem fixL_head {w n : Nat} (h1 : 2 ^ w ≤ n) (h2 : n < 2 ^ (w + 1)) : ∃ t, fixL (w + 1) n = 1 :: t ∧ t.length = w := by
  have e := fixL_at (w + 1) n 0 (by omega)
  have d : n / 2 ^ w = 1 := by
    have a : 1 ≤ n / 2 ^ w := (Nat.le_div_iff_mul_le (Nat.two_pow_pos w)).mpr (by omega)
    have b : n / 2 ^ w < 2 := (Nat.div_lt_iff_lt_mul (Nat.two_pow_pos w)).mpr (by rw [Nat.pow_succ] at h2; omega)
    omega
  rw [show w + 1 - 1 - 0 = w by omega, d] at e
  have hl := fixL_len (w + 1) n
  match h : fixL (w + 1) n with
  | [] => rw [h] at hl; simp at hl
  | x :: t =>
    rw [h] at e hl
    have : x = 1 := by simpa using e
    subst this
    exact ⟨t, rfl, by simpa using hl⟩
/-- the code of a count: so many noughts, a one, as many digits -/
theorem countL_form (c : Nat) (hc : c ≤ 2199023255550) : ∃ (z : Nat) (t : List Int), countL c = List.replicate z 0 ++ 1 :: t ∧ t.length = z ∧ z ≤ 40 ∧ numL (1 :: t) = (c : Int) + 1 ∧ ∀ x ∈ t, isBit x := by
  have hp := blen_pos (n := c + 1) (by omega)
  have h2 := blen_lt (c + 1)
  have h1 : 2 ^ (blen (c + 1) - 1) ≤ c + 1 := by
    unfold blen
    rw [if_neg (by omega)]
    exact (Nat.le_log2 (by omega)).mp (Nat.le_refl _)
  have h3 : blen (c + 1) ≤ 41 := blen_le (by omega)
  have e : blen (c + 1) = (blen (c + 1) - 1) + 1 := by omega
  rw [e] at h2
  obtain ⟨t, ht, hl⟩ := fixL_head h1 h2
  refine ⟨blen (c + 1) - 1, t, ?_, hl, by omega, ?_, fun x hx => ?_⟩
  · unfold countL
    rw [← ht, ← e]
  · rw [← ht, num_fixL _ _ h2]; simp
  · exact fixL_bit _ _ x (ht ▸ List.mem_cons_of_mem _ hx)
theorem countL_len (c : Nat) (hc : c ≤ 2199023255550) : (countL c).length ≤ 81 := by
  obtain ⟨z, t, h, hl, hz, _⟩ := countL_form c hc
  rw [h]; simp [hl]; omega
theorem countL_bit (c : Nat) (hc : c ≤ 2199023255550) : ∀ x ∈ countL c, isBit x := by
  obtain ⟨z, t, h, hl, hz, _, hb⟩ := countL_form c hc
  intro x hx
  rw [h] at hx
  rcases List.mem_append.mp hx with hx | hx
  · exact .inl (List.eq_of_mem_replicate hx)
  · rcases List.mem_cons.mp hx with rfl | hx
    · exact .inr rfl
    · exact hb x hx
/-- noughts from a place on -/
def zrun (bs : List Int) (a : Nat) : Nat := ((bs.drop a).takeWhile fun b => decide (b = 0)).length
/-- what is read at a place -/
def cntR (bs : List Int) (a : Nat) : List V :=
  if 40 < min 41 (zrun bs a) then [.str "long"] else if bs.length < a + min 41 (zrun bs a) + min 41 (zrun bs a) + 1 then [.str "short"]
  else [.str "read", .int (numL ((bs.drop (a + min 41 (zrun bs a))).take (min 41 (zrun bs a) + 1)) - 1), .int ((a + min 41 (zrun bs a) + min 41 (zrun bs a) + 1 : Nat) : Int)]
theorem tw_at {p : Int → Bool} : ∀ (l : List Int) (j : Nat), j < (l.takeWhile p).length → ∃ x, l[j]? = some x ∧ p x = true
  | [], j, h => by simp at h
  | y :: l, j, h => by
    rw [List.takeWhile_cons] at h
    by_cases e : p y = true
    · rw [if_pos e] at h
      cases j with
      | zero => exact ⟨y, rfl, e⟩
      | succ j => exact tw_at l j (by simpa using h)
    · rw [if_neg e] at h; simp at h
theorem tw_end {p : Int → Bool} : ∀ (l : List Int) (x : Int), l[(l.takeWhile p).length]? = some x → p x = false
  | [], x, h => by simp at h
  | y :: l, x, h => by
    rw [List.takeWhile_cons] at h
    by_cases e : p y = true
    · rw [if_pos e] at h
      exact tw_end l x (by simpa using h)
    · rw [if_neg e] at h
      have : y = x := by simpa using h
      subst this
      simpa using e
theorem zrun_at {bs : List Int} {a j : Nat} (h : j < zrun bs a) : bs[a + j]? = some 0 := by
  obtain ⟨x, e, hx⟩ := tw_at (bs.drop a) j h
  rw [List.getElem?_drop] at e
  rw [e]; simpa using hx
theorem zrun_end {bs : List Int} {a : Nat} : bs[a + zrun bs a]? ≠ some 0 := fun e => by
  have := tw_end (p := fun b => decide (b = 0)) (bs.drop a) 0 (by rw [List.getElem?_drop]; exact e)
  simp at this
theorem zrun_le {bs : List Int} {a : Nat} (h : a ≤ bs.length) : a + zrun bs a ≤ bs.length := by
  have : zrun bs a ≤ (bs.drop a).length := (List.takeWhile_sublist _).length_le
  simp at this; omega
theorem tw_rep (z : Nat) (r : List Int) (h : ∀ x, r[0]? = some x → x ≠ 0) : ((List.replicate z (0 : Int) ++ r).takeWhile fun b => decide (b = 0)).length = z := by
  induction z with
  | zero =>
    cases r with
    | nil => simp
    | cons x r => have := h x rfl; simp [this]
  | succ z ih => rw [List.replicate_succ, List.cons_append, List.takeWhile_cons, if_pos (by simp), List.length_cons, ih]
theorem cntR_code {c : Nat} (hc : c ≤ 2199023255550) (A B : List Int) : cntR (A ++ countL c ++ B) A.length = [.str "read", .int c, .int ((A.length + (countL c).length : Nat) : Int)] := by
  obtain ⟨z, t, h, hl, hz, hn, _⟩ := countL_form c hc
  have e : A ++ countL c ++ B = A ++ (List.replicate z 0 ++ (1 :: (t ++ B))) := by rw [h]; simp
  have hzr : zrun (A ++ countL c ++ B) A.length = z := by
    unfold zrun
    rw [e, List.drop_left]
    exact tw_rep z _ (by simp)
  have hlen : (countL c).length = z + (z + 1) := by rw [h]; simp [hl]
  unfold cntR
  rw [hzr, Nat.min_eq_right (by omega), if_neg (by omega), if_neg (by simp [hlen]; omega)]
  congr 2
  · congr 1
    rw [e, show A.length + z = (A ++ List.replicate z (0 : Int)).length by simp, ← List.append_assoc, List.drop_left, show (1 : Int) :: (t ++ B) = (1 :: t) ++ B from rfl, List.take_left' (by simp [hl]), hn]
    omega
  · rw [hlen, show A.length + z + z + 1 = A.length + (z + (z + 1)) by omega]
theorem cntR_short {c : Nat} (hc : c ≤ 2199023255550) (A : List Int) {k : Nat} (hk : k < (countL c).length) : cntR (A ++ (countL c).take k) A.length = [.str "short"] := by
  obtain ⟨z, t, h, hl, hz, hn, _⟩ := countL_form c hc
  have hlen : (countL c).length = z + (z + 1) := by rw [h]; simp [hl]
  have hzr : zrun (A ++ (countL c).take k) A.length = min k z := by
    unfold zrun
    rw [List.drop_left, h]
    by_cases hkz : k ≤ z
    · rw [List.take_append_of_le_length (by simp; omega), List.take_replicate, Nat.min_eq_left hkz]
      have := tw_rep k [] (by simp)
      simpa using this
    · rw [List.take_append, List.take_of_length_le (by simp; omega), Nat.min_eq_right (by omega)]
      refine tw_rep z _ fun x hx => ?_
      rw [List.length_replicate, show k - z = (k - z - 1) + 1 by omega, List.take_succ_cons] at hx
      have : (1 : Int) = x := by simpa using hx
      omega
  unfold cntR
  rw [hzr, if_neg (by omega), if_pos]
  simp; omega
section ClsS
open PyProof.Rows
/-! ### own classes -/
structure ClF (K : PySem.W.Frag) (mg : Str → Option Value) (nm : Str) : Prop where
  g : mg nm = some (.ref (exA mg nm))
  cl : Cls K (exA mg nm)
theorem ClF.mk' {K : PySem.W.Frag} {mg : Str → Option Value} {nm : Str} {C : Addr} (g : mg nm = some (.ref C)) (c : Cls K C) : ClF K mg nm := by
  have e := exA_of g
  exact ⟨by rw [e]; exact g, by rw [e]; exact c⟩
/-- a method that stands, with its promise -/
structure FnC (P : Program) (w : World) (K : PySem.W.Frag) (mg : Str → Option Value) (base : Heap) (CX : CXT) (k : Nat) (nm qual : Str) (st : Stmt) (f : Addr) (fd : FuncData) (ps : List Str) (sp : Sp) : Prop where
  G : FnOk P w K mg base CX k f fd ps sp
  b : Binds K fd ps []
  F : Fun K nm qual st f fd
theorem s_make {C : Addr} {sp : Sp} {dvs : List V} {E : XK} {t : TA} {σ : L2.St} {H : Hp} {Q : VK} (h : t σ H fun vs H1 => ∀ x dx, H1 x = none → H1 dx = none → dx ≠ x → sp (.ref x :: (vs ++ dvs)) (upd (upd H1 dx (.own x)) x (.ins C dx [])) (fun v H2 => v = .non ∧ Q (.ref x) H2) E) : tMake C sp dvs E t σ H Q := h
theorem s_meth {C : Addr} {m : Str} {sp : Sp} {dvs : List V} {E : XK} {ta : TE} {t : TA} {σ : L2.St} {H : Hp} {Q : VK} (h : ta σ H fun x H1 => ∃ a dx fs, x = .ref a ∧ H1 a = some (.ins C dx fs) ∧ fs.lookup m = none ∧ t σ H1 fun vs H2 => sp (x :: (vs ++ dvs)) H2 Q E) : tMeth C m sp dvs E ta t σ H Q := h
theorem s_prop {C : Addr} {sp : Sp} {dvs : List V} {E : XK} {ta : TE} {σ : L2.St} {H : Hp} {Q : VK} (h : ta σ H fun x H1 => ∃ a dx fs, x = .ref a ∧ H1 a = some (.ins C dx fs) ∧ sp (.ref a :: dvs) H1 Q E) : tProp C sp dvs E ta σ H Q := h
theorem s_fld {K : PySem.W.Frag} {f : Str} {ta : TE} {σ : L2.St} {H : Hp} {Q : VK} (h : ta σ H fun x H1 => ∃ a C dx fs v, x = .ref a ∧ H1 a = some (.ins C dx fs) ∧ Cls K C ∧ NoAttr K C f ∧ fs.lookup f = some v ∧ Q v H1) : tFld K ta f σ H Q := h
theorem s_sfld {K : PySem.W.Frag} {f : Str} {ta tv : TE} {D : Ends} {σ : L2.St} {H : Hp} (h : tv σ H fun y H1 => ta σ H1 fun x H2 => ∃ a C dx fs, x = .ref a ∧ H2 a = some (.ins C dx fs) ∧ Cls K C ∧ NoAttr K C f ∧ fs.length < 1000 ∧ D.nx σ (upd H2 a (.ins C dx (putF f y fs)))) : sFld K ta tv f D σ H := h
/-- o.m(k = v, ..) -/
def tMethK0 (C : Addr) (m : Str) (sp : Sp) (gV : List V → List V → List V) (E : XK) (ta : TE) (tk : TA) : TE := fun σ H Q => ta σ H fun x H1 => ∃ a dx fs, x = .ref a ∧ H1 a = some (.ins C dx fs) ∧ fs.lookup m = none ∧ tk σ H1 fun zs H2 => sp (gV [x] zs) H2 Q E
theorem pe_methK0 {X : Cx} {CX : CXT} {k : Nat} {f C : Addr} {fd : FuncData} {ps ks : List Str} {sp : Sp} {E : XK} {m : Str} {pos apos : Pos} {o : Expr} {ta : TE} {kws : List Keyword} {tk : TA} {g : List Value → List Value → List Value} {gV : List V → List V → List V} {pl : Sem Bool}
    (he : PE X o ta) (c : Cls X.K C) (hm : Meth X.K C m f) (F : FnOk X.prog X.w X.K X.mg X.base CX k f fd ps sp) (hr : Room k X.A) (hb : KBinds X.K fd ps ks g gV) (hx : Passes CX X E) (hkw : PK X kws tk)
    (hall : (backToKw pos (keywordEach kws X.env)).all (·.1.isSome) = true := by rfl) (hks : (backToKw pos (keywordEach kws X.env)).filterMap (·.1) = ks := by rfl)
    (hpl : ((backTo pos (starEach [] X.env)).any (·.1) || (backToKw pos (keywordEach kws X.env)).any (·.1.isNone)) = false := by rfl)
    (ht : eval (.Call (.Attribute o m apos) [] kws pos) X.env = (do
      let ov ← eval o X.env
      standAt apos.atName
      let (f, first) ← holding [ov] (getMethod ov m pl)
      callWith pos f first (backTo pos (starEach [] X.env)) (backToKw pos (keywordEach kws X.env))) := by rfl) :
    PE X (.Call (.Attribute o m apos) [] kws pos) (tMethK0 C m sp gV E ta tk) := by
  refine ⟨fun pins s σ H Q I h => ?_⟩
  refine PySem.W.methodCall_KW (pl := pl) (thn (he.run pins s σ H _ I h) fun u s1 ⟨x, H1, I1, rx, a, dx, fs, ex, ea, l, q⟩ => ?_) ht
  subst ex
  obtain rfl : u = Value.ref a := rx
  refine getmeth_ok I1 ea c hm l ?_
  refine PySem.W.callWith_KW0 (first := [.ref a]) (h₀ := X.base) I1.ok.mod.kin hm.kp hall ?_ hpl
  refine thn (hkw.run pos pins s1 σ H1 _ I1 q) fun ws s2 ⟨zs, H2, I2, rz, q2⟩ => ⟨I2.kIn, ?_⟩
  rw [hks]
  exact run_fnk (us := [.ref a]) (vs := [.ref a]) F hr hb hx I2 (.cons rfl .nil) rz q2
theorem s_methK0 {C : Addr} {m : Str} {sp : Sp} {gV : List V → List V → List V} {E : XK} {ta : TE} {tk : TA} {σ : L2.St} {H : Hp} {Q : VK} (h : ta σ H fun x H1 => ∃ a dx fs, x = .ref a ∧ H1 a = some (.ins C dx fs) ∧ fs.lookup m = none ∧ tk σ H1 fun zs H2 => sp (gV [x] zs) H2 Q E) : tMethK0 C m sp gV E ta tk σ H Q := h
end ClsS
theorem SqT.ofK {K : PySem.W.Frag} {H : Hp} {a : Addr} {xs : List V} {o : Obj} {its : Array Value} {n : Nat} (hk : K.lookup a = some o) (hc : o.cls = .type "tuple") (hd : o.data = .seq its n) (hz : its.size ≤ sizeLine) (r : Vals xs its.toList) : SqT K H a xs := .inr ⟨o, its, n, hk, hc, hd, hz, r⟩
theorem CTup.mk' {K : PySem.W.Frag} {mg : Str → Option Value} {nm : Str} {R : Addr} {xs : List V} (g : mg nm = some (.ref R)) (h : ∀ H, SqT K H R xs) : mg nm = some (.ref (exA mg nm)) ∧ ∀ H, SqT K H (exA mg nm) xs := by
  have e := exA_of g
  exact ⟨by rw [e]; exact g, fun H => by rw [e]; exact h H⟩
theorem sl_tupK {X : Cx} (K : PySem.W.Frag) (e : X.K = K) : SlR X (rSlT K) := by subst e; exact sl_tup
theorem _root_.L2.Fun.kbinds1 {K : PySem.W.Frag} {x qual : Str} {st : Stmt} {f : Addr} {fd : FuncData} {ps : List Str} (F : Fun K x qual st f fd) (ks : List Str) (hn : 0 < ps.length)
    (h : ∀ (kV doc pm : Value) (an : Option Addr) (cdv ct : Value) (us ws : List Value), us.length = 1 → ws.length = ks.length → bindArgs (PySem.W.fnOf x qual (defArgs st) (defBody st) (defScope st) .none kV doc pm an cdv ct) ⟨us, ks.zip ws⟩ = pure (ps.zip (us ++ ws))) :
    KBn K fd ps 1 ks (fun us ws => us ++ ws) (fun us ws => us ++ ws) := by
  obtain ⟨oc, od, kV, doc, pm, an, cdv, ct, osl, rfl, lk, hcd⟩ := F.ex
  exact ⟨fun s us ws _ h1 h2 => .of_eq (h kV doc pm an cdv ct us ws h1 h2), fun r rz => r.append rz⟩
section SupS
open PyProof.Rows PySem.Spec
/-! ### an own exception whose __init__ says super().__init__(..), below ValueError -/
/-- what the written part says of the class at C, whose __init__ closes over the cell cc and bears the code at cda -/
structure SupC (K : PySem.W.Frag) (C cc cda : Addr) (file : Str) : Prop where
  mro : PySem.W.ks_superIn K C C "__init__" = some (some (.builtin "ValueError.__init__"))
  val : PySem.W.subIn K (.ref C) (.type "ValueError") = some true
  self : PySem.W.mroIn K C (.ref C) = some true
  cls : ∃ cd, PySem.W.clsIn K C = some cd
  any : PySem.W.nsIn K cStatics "thirdparty.any" = some none
  cell : ∃ cl cld csl, K.lookup cc = some ⟨cl, cld, .cell (some (.ref C)), csl⟩
  code : ∃ ccl cdd vs ccs tf, K.lookup cda = some ⟨ccl, cdd, .fields vs, ccs⟩ ∧ vs[2]? = some (.str file tf)
section
variable {prog : Program} {w : World} {A : Around} {E : Value → Shared → Prop} {h : Heap} {g : Array GenState} {d : PySem.Drawn} {t : Nat} {os : OsState}
variable {nm q : Str} {C N : Addr} {bs bm : List Value} {hdct : Bool} {sn : List Str} {sub : List Value} {ab : Bool} {col : Option Bool} {dd : Option Addr} {k0 k1 k2 k3 k5 : Option Value}
theorem call_bwV {u e t0 : Addr} {rest : List Value} {Q : Value → Shared → Prop}
    (hC : h.get? C = some (excClassObj nm q C N bs bm hdct sn sub ab col dd k0 k1 k2 k3 k5 "ValueError.__new__")) (he : h.get? e = some (HandSPX.excO C t0)) (hu : h.get? u = some (PySem.W.kxs_mw "ValueError.__init__" e)) (hrest : rest.length ≤ sizeLine)
    (hq : ∀ h' t1, (∀ b o, b ≠ e → h.get? b = some o → h'.get? b = some o) → h'.get? e = some (HandSPX.excO C t1) → Q .none ⟨h', g, d, t, os⟩) :
    wpAny (model prog w) A (call (.ref u) rest) Q E ⟨h, g, d, t, os⟩ := by
  refine wpAny_call (codeAny_of_tree ?_)
  show wpAny _ A.in1 (callAny (.ref u) ⟨rest, []⟩) _ _ _
  simp only [callAny]
  refine wpAny_bind (wpAny_load hu ?_)
  simp only [PySem.W.kxs_mw, show (Value.type "method-wrapper" == Value.type "method" || Value.type "method-wrapper" == Value.type "builtin_function_or_method" || Value.type "method-wrapper" == Value.type "method-wrapper") = true by decide, if_true]
  refine W.KFB.if_so (by decide) ?_
  refine wpAny_bind (PySem.W.check_bound_init F.excBase_ValueError.toExcCallFacts hC he rfl ?_)
  refine wpAny_bind (wpAny_pure (wpAny_pure ?_))
  refine ⟨plainId_quiet F.excBase_ValueError.init.plain _, codeAny_builtin F.excBase_ValueError.initEntry ?_⟩
  rw [Around.under_plainId F.excBase_ValueError.init.plain _]
  wp_walk
  refine hq _ h.objs.size (fun b o hb ho => ?_) ?_
  · rw [Heap.get?_update_other _ _ (Ne.symm hb)]
    exact Heap.get?_push_of_some _ ho
  · rw [Heap.get?_update_self _ (Heap.get?_push_of_some _ he) rfl]
    rfl
end
section
variable {X : Cx} {pins : List (Addr × Obj)} {σ : L2.St} {H : Hp} {s : Shared} {a C : Addr}
theorem supinit_ok {u : Addr} {us : List Value} {Q : Value → Shared → Prop} {A : Around} {E : Value → Shared → Prop} (T : OexC X.K C) (I : Inv X ((u, PySem.W.kxs_mw "ValueError.__init__" a) :: pins) σ H s) (e : H a = some (exo a C none)) (hl : us.length ≤ sizeLine) (h : ∀ s', Inv X pins σ H s' → Q .none s') :
    wpAny (model X.prog X.w) A (call (.ref u) us) Q E s := by
  obtain ⟨nm, q, N, bs, bm, sn, sub, ab, col, dd, k0, k1, k2, k3, k5, hC, hbm⟩ := T.cls
  obtain ⟨t1, ho⟩ := exo_at I.hok e
  have hu := ClX.pin_at I
  obtain ⟨hp, g, d, t, os⟩ := s
  refine call_bwV (I.kIn _ _ hC) ho hu hl fun h' t2 k hx => ?_
  have I0 := ClX.unpin I
  have J := I0.write (t' := t) (x := a) (e := a) (o := exo a C none) (by rw [e]; exact True.intro) (.inl rfl) k ⟨_, hx⟩ (exo_ok hx)
  have eu : upd H a (exo a C none) = H := by
    funext b
    by_cases hb : b = a
    · rw [hb, upd_same, e]
    · rw [upd_ne hb]
  rw [eu] at J
  exact h _ J
end
section
variable {X : Cx} {pins : List (Addr × Obj)} {σ : L2.St} {H : Hp} {s : Shared} {a C cc cda f : Addr} {file q : Str} {body : List Stmt} {scope : Scope} {of : Obj} {fd : FuncData} {ar : Arg}
/-- super().__init__(e, ..) -/
theorem sup_call {e : Expr} {es : List Expr} {ta : TA} {p0 p1 p2 pos : Pos} {pl : Sem Bool} {Q : Value → Shared → Prop} (S : SupC X.K C cc cda file) (T : OexC X.K C)
    (ef : X.prog.main.file = file) (et : (X.prog.main.scope.names.lookup ("super" : Str)).isSome = false) (hfu : X.env.func = some f) (hf : X.K.lookup f = some of) (hfd : of.data = .func fd)
    (hp : (fd.params.posonlyargs ++ fd.params.args).head? = some ar) (hco : X.env.code = .ref cda) (hce : X.env.cells.lookup ("__class__" : Str) = some cc)
    (hks : X.env.kindOf ("super" : Str) = some .globalImplicit) (hkc : X.env.kindOf ("__class__" : Str) = some .free) (hka : X.env.kindOf ar.arg = some .local) (hms : X.mg "super" = none)
    (hN : X.N[0]? = some ar.arg) (hσ : σ[0]? = some (some (.ref a))) (I : Inv X pins σ H s) (ea : H a = some (exo a C none)) (ha : PA X (e :: es) ta)
    (h : ta σ H fun vs H1 => vs.length ≤ 1000 ∧ H1 a = some (exo a C none) ∧ ∀ s', Inv X pins σ H1 s' → Q .none s')
    (hev : eval (.Call (.Attribute (.Call (.Name "super" p0) [] [] p1) "__init__" p2) (e :: es) [] pos) X.env = (do
      let ov ← attributeBase (.Call (.Name "super" p0) [] [] p1) "__init__" X.env (eval (.Call (.Name "super" p0) [] [] p1) X.env)
      standAt p2.atName
      let (f, first) ← holding [ov] (getMethod ov "__init__" pl)
      callWith pos f first (backTo pos (starEach (e :: es) X.env)) []) := by rfl)
    (he : starEach (e :: es) X.env = (false, eval e X.env) :: starEach es X.env := by rfl) (hpl : (backTo pos (starEach es X.env)).any (·.1) = false := by rfl) :
    _root_.PySem.wpAt (model X.prog X.w) X.A (.func body X.env) (eval (.Call (.Attribute (.Call (.Name "super" p0) [] [] p1) "__init__" p2) (e :: es) [] pos) X.env) Q X.xe s := by
  obtain ⟨cl, cld, csl, hcell⟩ := S.cell
  obtain ⟨ccl, cdd, vs, ccs, tf, hcode, hvs⟩ := S.code
  obtain ⟨cd, hcd⟩ := S.cls
  obtain ⟨m, hm, hloc⟩ := I.loc
  have KX : X.K.In s.heap := I.kIn
  have hv : m ar.arg = some (.ref a) := by
    obtain ⟨u, ru, lu⟩ := hloc 0 ar.arg (.ref a) hN hσ (.inl hka)
    obtain rfl : u = Value.ref a := ru
    rcases lu with ⟨_, z⟩ | ⟨z, _⟩
    · exact z
    · rcases z with z | z <;> rw [hka] at z <;> cases z
  obtain ⟨t0, ho⟩ := exo_at I.hok ea
  obtain ⟨mb, b1, b2⟩ := I.ok.mod.blt
  obtain ⟨oD, hD1, hD2⟩ : ∃ oD, s.heap.get? C = some oD ∧ oD.data = .cls cd := by
    unfold PySem.W.clsIn at hcd
    split at hcd
    · rename_i c d cd' sl ho
      cases hcd
      exact ⟨_, KX _ _ ho, rfl⟩
    · cases hcd
  refine PySem.ks_wpAt_MethodCall (pl := pl) ?_ hev
  refine PySem.ks_wpAt_super_base hks hkc (by decide) hfu (KX _ _ hf) hfd hp hco (KX _ _ hcode) rfl hvs (by rw [ef]; simp) et ?_
  refine PySem.W.ks_loadName_global I.ok.kind hks (Calls.loadGlobal_builtin (by rw [I.ok.glob]; exact I.mod.glob.keeps I.bk) hms (by rw [I.ok.blt]; exact b1.keeps I.bk) ((b2 _ (by decide)).trans (by kernel_rfl)) ⟨rfl, ?_⟩)
  refine wpAny_loadName_free I.ok.kind hkc hce ⟨_, KX _ _ hcell, rfl⟩ ?_
  refine wpAny_loadName_local I.ok.kind hka hm hv ?_
  refine PySem.ks_wpAny_isType_cls hD1 hD2 ⟨rfl, ?_⟩
  have hI : PySem.W.InstAt s.heap a { cls := .ref C, dict := none, data := .fields #[.ref t0, .none, .none, .none, .bool false, .none] } C none := ⟨ho, rfl, rfl, trivial⟩
  obtain ⟨hp, g, d, t, os⟩ := s
  refine PySem.ks_wpAny_call_super hD1 hD2 ho rfl (fun c z => by cases z) (PySem.W.looks_mroIn KX S.self) (fun h' e1 k1 => ?_)
  have I1 : Inv X pins σ H ⟨h', g, d, t, os⟩ := I.kept (t' := t) k1
  have hI1 : PySem.W.InstAt h' a { cls := .ref C, dict := none, data := .fields #[.ref t0, .none, .none, .none, .bool false, .none] } C none := ⟨k1 _ _ ho, rfl, rfl, trivial⟩
  refine PySem.W.kxs_getMethod PySem.W.kxs_ValueError e1 (PySem.W.looks_opaque I1.kIn S.any) (l₀ := cd.mro) (fun A Q E s k q => wpAny_bind ((PySem.W.looks_clsIn I1.kIn hcd) A _ E s k (wpAny_pure q))) rfl I1.kIn
    (by have z := S.mro; unfold PySem.W.ks_superIn at z; rw [hcd] at z; exact z) (hI1.type.andThen (PySem.W.looks_subIn I1.kIn S.val)) (PySem.W.ks_ne I1.kIn hI1 hcd) (by decide) ?_
  have I2 : Inv X ((h'.objs.size, PySem.W.kxs_mw "ValueError.__init__" a) :: pins) σ H ⟨h'.push (PySem.W.kxs_mw "ValueError.__init__" a), g, d, t + 1, os⟩ :=
    ClX.pin_new (t' := t + 1) I1 (fun b o z => Heap.get?_push_of_some _ z) (Nat.le_refl _) (Heap.get?_push_at rfl rfl) (fun v z => by cases z)
  have hev2 := thn (ha.run pos _ _ σ H _ I2 h) (Q' := fun vs s₁ => PySem.W.KxsAt "ValueError.__init__" h'.objs.size a s₁.heap ∧ wpAny (model X.prog X.w) X.A (call (.ref h'.objs.size) vs) Q X.xe s₁) fun us s1 ⟨vs, H1, J, r1, q1, q2, q3⟩ => ⟨ClX.pin_at J, supinit_ok T J q2 (by rw [← r1.length, sizeLine_eq]; omega) q3⟩
  show wpAny _ _ (callWith pos (.ref h'.objs.size) [] (backTo pos (starEach (e :: es) X.env)) []) _ _ _
  rw [he] at hev2 ⊢
  refine PySem.W.kxs_callWith (i := "ValueError.__init__") (x := a) (by show (false || (backTo pos (starEach es X.env)).any (·.1)) = false; rw [hpl]; rfl) ?_
  exact Calls.evalArgs_plain hev2
end
end SupS
section Sup2
open PyProof.Rows PySem.Spec
/-- an __init__ that closes over its class -/
structure FunS (K : PySem.W.Frag) (x qual : Str) (st : Stmt) (f : Addr) (fd : FuncData) (cc cda : Addr) : Prop where
  ex : ∃ (oc : Value) (od : Option Addr) (kV doc pm : Value) (an : Option Addr) (ct : Value) (osl : Array (Option Value)),
    fd = PySem.W.ksFn x qual (defArgs st) (defBody st) (defScope st) .none kV doc pm an (.ref cda) ct cc ∧ K.lookup f = some ⟨oc, od, .func fd, osl⟩ ∧ PySem.W.codeIn K (.ref cda) qual = true
theorem funS_mk {K : PySem.W.Frag} {x qual : Str} {st : Stmt} {f cc cda : Addr} {oc kV doc pm ct : Value} {od an : Option Addr} {osl : Array (Option Value)}
    (lk : K.lookup f = some ⟨oc, od, .func (PySem.W.ksFn x qual (defArgs st) (defBody st) (defScope st) .none kV doc pm an (.ref cda) ct cc), osl⟩) (hcd : PySem.W.codeIn K (.ref cda) qual = true) :
    FunS K x qual st f (PySem.W.ksFn x qual (defArgs st) (defBody st) (defScope st) .none kV doc pm an (.ref cda) ct cc) cc cda := ⟨_, _, _, _, _, _, _, _, rfl, lk, hcd⟩
abbrev nfS (x qual : Str) (st : Stmt) (cc cda : Addr) : NdefX.NF := ⟨x, qual, defArgs st, defBody st, defScope st, [("__class__", cc)], cda⟩
/-- the context of its body -/
abbrev supX (CX : CXT) (P : Program) (w : World) (K : PySem.W.Frag) (mg : Str → Option Value) (base : Heap) (N : List Str) (x qual : Str) (st : Stmt) (cc cda f : Addr) (A : Around) (outer : List Env) (s : Shared) (H : Hp) (E : XK) : Cx :=
  NdefX.ncx CX P w K mg base N (nfS x qual st cc cda) f A outer s H E
section
variable {CX : CXT} {P : Program} {w : World} {K : PySem.W.Frag} {mg : Str → Option Value} {base : Heap} {N ps : List Str} {x qual : Str} {st : Stmt} {f C cc cda : Addr} {fd : FuncData} {k : Nat} {sp : Sp} {file : Str} {ar : Arg} {e : Expr} {rest : List Stmt} {p0 p1 p2 pos pe : Pos}
theorem okSup (F : FunS K x qual st f fd cc cda) (S : NdefX.NScope N ps ["__class__"] (defScope st)) (len : ∀ vs H Q E, sp vs H Q E → vs.length = ps.length)
    (eb : defBody st = .Expr (.Call (.Attribute (.Call (.Name "super" p0) [] [] p1) "__init__" p2) [e] [] pos) pe :: rest)
    (SC : SupC K C cc cda file) (T : OexC K C) (ef : P.main.file = file) (et : (P.main.scope.names.lookup ("super" : Str)).isSome = false) (hp : ((defArgs st).posonlyargs ++ (defArgs st).args).head? = some ar)
    (hks : (defScope st).names.lookup ("super" : Str) = some .globalImplicit) (hka : (defScope st).names.lookup ar.arg = some .local) (hN : N[0]? = some ar.arg) (hms : mg "super" = none)
    (hst : ∀ env, starEach [e] env = [(false, eval e env)]) {pl : Env → Sem Bool}
    (hev : ∀ env : Env, eval (.Call (.Attribute (.Call (.Name "super" p0) [] [] p1) "__init__" p2) [e] [] pos) env = (do
      let ov ← attributeBase (.Call (.Name "super" p0) [] [] p1) "__init__" env (eval (.Call (.Name "super" p0) [] [] p1) env)
      standAt p2.atName
      let (f, first) ← holding [ov] (getMethod ov "__init__" (pl env))
      callWith pos f first (backTo pos (starEach [e] env)) []))
    (hbody : ∀ (A : Around) (outer : List Env) (s : Shared) (H : Hp) (vs : List V) (Q : VK) (E : XK), Room k (A.deeper (supX CX P w K mg base N x qual st cc cda f A outer s H E).env) → sp vs H Q E →
      ∃ (a : Addr) (ta : TA) (tr : TS), PA (supX CX P w K mg base N x qual st cc cda f A outer s H E) [e] ta ∧ PSs (supX CX P w K mg base N x qual st cc cda f A outer s H E) rest tr ∧ vs[0]? = some (.ref a) ∧ H a = some (exo a C none) ∧
        ∀ R : List V → Hp → Prop, (∀ us H1, us.length ≤ 1000 → H1 a = some (exo a C none) → tr { nx := fun _ H' => Q .non H', rt := Q } (NdefX.startF N vs [none]) H1 → R us H1) → ta (NdefX.startF N vs [none]) H R) :
    FnOk P w K mg base CX (k + 1) f fd ps sp := by
  obtain ⟨oc, od, kV, doc, pm, an, ct, osl, rfl, lk, hcd⟩ := F.ex
  refine ⟨len, fun A outer s H args us vs Q E hr e0 hb r hsp => ?_⟩
  have hl := len _ _ _ _ hsp
  have KX : K.In s.heap := e0.mod.kin.keeps fun b o e => (e0.bs b o e).1
  have lim : s.heap.NoLimit := e0.mod.nolimit.keeps fun b o e => (e0.bs b o e).1
  refine PySem.ks_codeAny_call_defAt (fd := PySem.W.ksFn x qual (defArgs st) (defBody st) (defScope st) .none kV doc pm an (.ref cda) ct cc) (body := defBody st) (binds := ps.zip us) hr.depth (KX _ _ lk) rfl lim (PySem.W.codeRec_of KX hcd) rfl hb S.nocell
    (fun ⟨n, _⟩ hy => S.par n (List.of_mem_zip hy).1) (fun h₁ hns kp => ?_) S.co S.gen S.kind
  obtain ⟨a, ta, tr, hta, htr, ha0, hea, hq⟩ := hbody A outer s H vs Q E (hr.deeper _) hsp
  have CA : NdefX.CellsAt [(("__class__" : Str), cc)] ["__class__"] [none] s.heap H := by
    obtain ⟨cl, cld, csl, hc⟩ := SC.cell
    have hb0 := e0.bs cc _ (e0.mod.kin _ _ hc)
    refine ⟨rfl, fun y c z => ?_, fun x y c z1 z2 => ?_, fun i y z => ?_⟩
    · have e2 : c = cc := by
        rw [List.lookup_cons] at z
        split at z
        · exact (Option.some.inj z).symm
        · cases z
      subst e2
      exact ⟨hb0.2, _, _, hb0.1, rfl⟩
    · rw [List.lookup_cons] at z1 z2
      split at z1
      · split at z2
        · rename_i q1 _ q2
          exact (eq_of_beq (by assumption)).trans (eq_of_beq (by assumption)).symm
        · cases z2
      · cases z1
    · have hy : y = "__class__" := by
        cases i with
        | zero => exact (Option.some.inj z).symm
        | succ n => simp at z
      subst hy
      refine ⟨cc, by rw [List.lookup_cons]; rfl, fun v z2 => ?_⟩
      cases i with
      | zero => simp at z2
      | succ n => simp at z
  have I : Inv (supX CX P w K mg base N x qual st cc cda f A outer s H E) [] (NdefX.startF N vs [none]) H { s with heap := h₁, toks := s.toks + (ps.zip us).length } := NdefX.inv_startN (F := nfS x qual st cc cda) S hr.hd e0 hl r CA hns kp
  have hσ : (NdefX.startF N vs [none])[0]? = some (some (.ref a)) := by
    cases vs with
    | nil => simp at ha0
    | cons v vs =>
      simp at ha0
      subst ha0
      rfl
  have hkc : (defScope st).names.lookup ("__class__" : Str) = some .free := S.frk _ (by simp)
  have key : _root_.PySem.wpAt (model P w) (supX CX P w K mg base N x qual st cc cda f A outer s H E).A (.func (defBody st) (supX CX P w K mg base N x qual st cc cda f A outer s H E).env) (execs (defBody st) (supX CX P w K mg base N x qual st cc cda f A outer s H E).env)
      (SP (supX CX P w K mg base N x qual st cc cda f A outer s H E) [] { nx := fun _ H' => Q .non H', rt := Q }) (supX CX P w K mg base N x qual st cc cda f A outer s H E).xe { s with heap := h₁, toks := s.toks + (ps.zip us).length } := by
    rw [show execs (defBody st) (supX CX P w K mg base N x qual st cc cda f A outer s H E).env = execs (.Expr (.Call (.Attribute (.Call (.Name "super" p0) [] [] p1) "__init__" p2) [e] [] pos) pe :: rest) (supX CX P w K mg base N x qual st cc cda f A outer s H E).env from by rw [eb]]
    refine PySem.ks_wpAt_execs_cons (PySem.ks_wpAt_Expr_any ?_ (by unfold interactive; rw [show (supX CX P w K mg base N x qual st cc cda f A outer s H E).env.scope.kind = .function from S.kind]; rfl) rfl)
    refine sup_call (X := supX CX P w K mg base N x qual st cc cda f A outer s H E) (a := a) (C := C) (cc := cc) (cda := cda) (f := f) (file := file) (fd := PySem.W.ksFn x qual (defArgs st) (defBody st) (defScope st) .none kV doc pm an (.ref cda) ct cc) (ar := ar) SC T ef et rfl lk rfl hp rfl (by show List.lookup _ [(("__class__" : Str), cc)] = some cc; rw [List.lookup_cons]; rfl) hks hkc hka hms hN hσ I hea hta (hq _ fun us H1 z1 z2 z3 => ⟨z1, z2, fun s' J => _root_.PySem.wpAt_of_wpAny (htr.run [] s' _ _ _ J z3)⟩) (hev _) (hst _) rfl
  refine PySem.ks_wpAt_mono key (fun fl s' hs => ?_) fun e s' hs => hs
  have fin : ∀ {σ' : L2.St} {H' : Hp} {v : V} {u : Value}, Inv (supX CX P w K mg base N x qual st cc cda f A outer s H E) [] σ' H' s' → L2.RelV v u → Q v H' → CE outer P w H s Q u s' :=
    fun {σ' H' v u} J rv q => ⟨v, H', J.os, J.bare, J.base, J.hok, rv, q⟩
  cases fl with
  | ret u =>
    obtain ⟨v, σ', H', J, rv, q⟩ := hs
    exact fin J rv q
  | next =>
    obtain ⟨σ', H', J, q⟩ := hs
    exact fin (v := V.non) (u := Value.none) J rfl q
  | brk =>
    obtain ⟨_, _, _, q⟩ := hs
    exact False.elim q
  | cont =>
    obtain ⟨_, _, _, q⟩ := hs
    exact False.elim q
end
end Sup2
section ExcI2
open PySem.W PySem.Spec PySem.Calls PyProof.Rows
/-- isinstance(e, c) in an except suite, e with fields or without -/
def rIsY (K : PySem.W.Frag) (a : Addr) (cls : Value) (d : Option Addr) : List V → Hp → VK → Prop := fun xs H Q => ∃ D, cls = .ref D ∧ (d = none ∨ ∃ dd fs, d = some dd ∧ H dd = some (.xd fs)) ∧ ExcC K D ∧ rIsE K D a xs H Q
theorem call_isY {X : Cx} (K : PySem.W.Frag) (eK : X.K = K) {a : Addr} {cls : Value} {d : Option Addr} {oe : Obj} {pn : List (Addr × Obj)} (hz : Zc cls d oe) (hf : ∃ vs, oe.data = .fields vs) : CallR (X.suite a ((a, oe) :: pn)) (.builtin "isinstance") (rIsY K a cls d) := by
  subst eK
  intro pins s σ H xs us Q I r h
  obtain ⟨D, rfl, hd, C, c, cv, b, rfl, hcv, e, q⟩ := h
  cases r with
  | cons rx rr =>
    cases rr with
    | cons rt rr =>
      cases rr
      cases rx
      have ec := hcv _ rt
      subst ec
      obtain ⟨hget, _⟩ := I.pin (a, oe) (List.mem_append.mpr (.inl List.mem_cons_self))
      obtain ⟨vs, hv⟩ := hf
      have J : ∃ od, PySem.W.InstAt s.heap a oe D od := by
        obtain ⟨oc, od, oda, osl⟩ := oe
        obtain ⟨h1, h2⟩ := hz
        dsimp only at h1 h2 hv
        subst h1 h2 hv
        rcases hd with e | ⟨dd, fs, e, ea⟩
        · subst e
          exact ⟨none, hget, rfl, rfl, trivial⟩
        · subst e
          obtain ⟨mA, hns, hr⟩ := (show ObjOk X.prog X.w H s.heap dd (.xd fs) from I.hok dd _ ea)
          obtain ⟨od, ho, hl⟩ := lookIn_ns hns
          exact ⟨some od, hget, rfl, rfl, ho⟩
      obtain ⟨od, J⟩ := J
      exact PySem.W.kia_one (PySem.W.kitx_exc (by obtain ⟨cd, hc, _⟩ := PySem.W.any_some C.hd; rw [hc]; rfl) C.hg C.hk C.hs C.ha C.hn C.ht C.hm) I.kIn J e (fun z => nomatch z) fun tk => ⟨.bl b, H, I.kept (t' := tk) fun _ _ z => z, rfl, q⟩
theorem s_isY {K : PySem.W.Frag} {a D C : Addr} {d : Option Addr} {b : Bool} {H : Hp} {Q : VK} (c : ExcC K D) (hd : d = none ∨ ∃ dd fs, d = some dd ∧ H dd = some (.xd fs)) (k : PySem.W.kitOne K (.ref D) (.ref C) = some b) (q : Q (.bl b) H) : rIsY K a (.ref D) d [.ref a, .ref C] H Q :=
  ⟨D, rfl, hd, c, .ref C, .ref C, b, rfl, fun _ r => r, k, q⟩
theorem s_isYt {K : PySem.W.Frag} {a D : Addr} {n : String} {d : Option Addr} {b : Bool} {H : Hp} {Q : VK} (c : ExcC K D) (hd : d = none ∨ ∃ dd fs, d = some dd ∧ H dd = some (.xd fs)) (k : PySem.W.kitOne K (.ref D) (.type n) = some b) (q : Q (.bl b) H) : rIsY K a (.ref D) d [.ref a, .ty n] H Q :=
  ⟨D, rfl, hd, c, .ty n, .type n, b, rfl, fun _ r => r, k, q⟩
end ExcI2
section Sup3
open PyProof.Rows PySem.Spec
theorem clsIn_some {K : PySem.W.Frag} {nm q : Str} {C N : Addr} {bs bm : List Value} {hdct : Bool} {sn : List Str} {sub : List Value} {ab : Bool} {col : Option Bool} {dd : Option Addr} {k0 k1 k2 k3 k5 : Option Value} {id : String}
    (h : K.lookup C = some (excClassObj nm q C N bs bm hdct sn sub ab col dd k0 k1 k2 k3 k5 id)) : ∃ cd, PySem.W.clsIn K C = some cd := by
  unfold PySem.W.clsIn
  rw [h]
  exact ⟨_, rfl⟩
/-- an own exception class that has its own __init__ -/
structure ExG (K : PySem.W.Frag) (mg : Str → Option Value) (nm : Str) : Prop where
  g : mg nm = some (.ref (exA mg nm))
  k : PySem.W.keepIn K (.ref (exA mg nm)) = true
  b : PySem.W.subIn K (.ref (exA mg nm)) (.type "BaseException") = some true
  t : PySem.W.typeIn K (.ref (exA mg nm)) = some (.type "type")
  c : ExcC K (exA mg nm)
theorem ExG.mk' {K : PySem.W.Frag} {mg : Str → Option Value} {nm : Str} {C : Addr} (g : mg nm = some (.ref C)) (k : PySem.W.keepIn K (.ref C) = true)
    (b : PySem.W.subIn K (.ref C) (.type "BaseException") = some true) (t : PySem.W.typeIn K (.ref C) = some (.type "type"))
    (hg : PySem.W.findIn K (.ref C) "__getattribute__" = some (some (.builtin "BaseException.__getattribute__"))) (hk : PySem.W.findIn K (.ref C) "__getattr__" = some none) (hd : PySem.W.hasDictIn K C = true)
    (ha : PySem.W.findIn K (.ref C) "__class__" = some (some (.builtin "object.__class__"))) (hn : PySem.W.specialIn K (.builtin "object.__class__") "__get__" = some (some (.builtin "getset_descriptor.__get__")))
    (ht : PySem.W.takesIn K (.builtin "object.__class__") = some true) (hm : PySem.W.mroIn K C (.type "object") = some true) : ExG K mg nm := by
  have e := exA_of g
  exact ⟨by rw [e]; exact g, by rw [e]; exact k, by rw [e]; exact b, by rw [e]; exact t, by rw [e]; exact ⟨hg, hk, b, hd, ha, hn, ht, hm⟩⟩
theorem ExG.exm {K : PySem.W.Frag} {mg : Str → Option Value} {nm : Str} (h : ExG K mg nm) {cls : Value} {b : Bool} (s : PySem.W.subIn K cls (.ref (exA mg nm)) = some b) : PySem.W.exmOne K cls (.ref (exA mg nm)) = some b := PySem.W.exm_ref h.b h.c.hd h.t s
theorem ExG.xf {K : PySem.W.Frag} {mg : Str → Option Value} {nm : Str} (h : ExG K mg nm) : XfC K (exA mg nm) := ⟨h.c.hg, h.c.hk, h.b, h.c.hd⟩
/-- its __init__, with its promise -/
structure ExI (P : Program) (w : World) (K : PySem.W.Frag) (mg : Str → Option Value) (base : Heap) (CX : CXT) (k : Nat) (fI : Addr) (fd : FuncData) (C : Addr) (ps : List Str) (sp : Sp) : Prop where
  T : OexC K C
  i : PySem.W.findIn K (.ref C) "__init__" = some (some (.ref fI))
  t : PySem.W.typeIn K (.ref fI) = some (.type "function")
  F : FnOk P w K mg base CX k fI fd ps sp
  b : L2.Binds K fd ps []
theorem FunS.binds {K : PySem.W.Frag} {x qual : Str} {st : Stmt} {f cc cda : Addr} {fd : FuncData} {ps : List Str} (F : FunS K x qual st f fd cc cda)
    (h : ∀ (kV doc pm : Value) (an : Option Addr) (ct : Value) (us : List Value), us.length = ps.length → bindArgs (PySem.W.ksFn x qual (defArgs st) (defBody st) (defScope st) .none kV doc pm an (.ref cda) ct cc) ⟨us, []⟩ = pure (ps.zip us)) : L2.Binds K fd ps [] := by
  obtain ⟨oc, od, kV, doc, pm, an, ct, osl, rfl, lk, hcd⟩ := F.ex
  exact L2.Binds.all fun us hl => h kV doc pm an ct us hl
theorem exci_by {X : Cx} {e : Expr} {rest : List Stmt} {ta : TA} {tr : TS} {vs : List V} {H : Hp} {C : Addr} {σ : L2.St} {D : Ends} (h1 : PA X [e] ta) (h2 : PSs X rest tr)
    (h : ∃ a, vs[0]? = some (.ref a) ∧ H a = some (exo a C none) ∧ ∀ R : List V → Hp → Prop, (∀ us H1, us.length ≤ 1000 → H1 a = some (exo a C none) → tr D σ H1 → R us H1) → ta σ H R) :
    ∃ (a : Addr) (ta : TA) (tr : TS), PA X [e] ta ∧ PSs X rest tr ∧ vs[0]? = some (.ref a) ∧ H a = some (exo a C none) ∧ ∀ R : List V → Hp → Prop, (∀ us H1, us.length ≤ 1000 → H1 a = some (exo a C none) → tr D σ H1 → R us H1) → ta σ H R := by
  obtain ⟨a, q1, q2, q3⟩ := h
  exact ⟨a, ta, tr, h1, h2, q1, q2, q3⟩
theorem passN {P : Program} {w : World} {X : Cx} : Passes (L2.CX P w) X (fun _ _ _ => False) := fun pins σ H s e s' I h => by
  obtain ⟨_, _, _, _, _, _, _, _, _, _, _, _, z⟩ := h
  exact z.elim
/-- the promise of an __init__ that keeps one thing as the field fld -/
def spSup (C : Addr) (fld : Str) (ok : V → Prop) : Sp := fun vs H Q _ => vs.length = 2 ∧ ∃ (a : Addr) (x : V), vs = [.ref a, x] ∧ ok x ∧ H a = some (exo a C none) ∧ ∀ dx, H dx = none → dx ≠ a → Q .non (upd (upd H dx (exd dx [(fld, x)])) a (exo a C (some dx)))
theorem mkO_fin {C : Addr} {fld : Str} {ok : V → Prop} {x : V} {H1 : Hp} {Q : XK} {E : XK} (hx : ok x) (h : ∀ d, H1 d = none → Q (.ref C) (some d) (upd H1 d (.xd [(fld, x)]))) :
    ([x] : List V).length ≤ 1000 ∧ ∀ a, H1 a = none → spSup C fld ok (.ref a :: ([x] ++ [])) (upd H1 a (exo a C none))
      (fun v H2 => v = .non ∧ ∃ (d : Addr) (fs : List (Str × V)), H2 a = some (exo a C (some d)) ∧ H2 d = some (exd d fs) ∧ H1 d = none ∧ Q (.ref C) (some d) (upd (del H2 a) d (.xd fs))) E := by
  refine ⟨by simp, fun a ha => ⟨rfl, a, x, rfl, hx, upd_same, fun dx hd hne => ⟨rfl, dx, [(fld, x)], upd_same, by rw [upd_ne hne, upd_same], by rw [upd_ne hne] at hd; exact hd, ?_⟩⟩⟩
  have hd' : H1 dx = none := by rw [upd_ne hne] at hd; exact hd
  have e : upd (del (upd (upd (upd H1 a (exo a C none)) dx (exd dx [(fld, x)])) a (exo a C (some dx))) a) dx (.xd [(fld, x)]) = upd H1 dx (.xd [(fld, x)]) := by
    funext b
    by_cases hb : b = dx
    · rw [hb, upd_same, upd_same]
    · rw [upd_ne hb, upd_ne hb]
      by_cases hba : b = a
      · rw [hba, del_same, ha]
      · rw [del_ne hba, upd_ne hba, upd_ne hb, upd_ne hba]
  rw [e]
  exact h dx hd'
theorem s_mkO {C : Addr} {sp : Sp} {dvs : List V} {ta : TA} {σ : L2.St} {H : Hp} {Q : XK} (h : ta σ H fun vs H1 => vs.length ≤ 1000 ∧ ∀ a, H1 a = none → sp (.ref a :: (vs ++ dvs)) (upd H1 a (exo a C none))
  (fun v H2 => v = .non ∧ ∃ (d : Addr) (fs : List (Str × V)), H2 a = some (exo a C (some d)) ∧ H2 d = some (exd d fs) ∧ H1 d = none ∧ Q (.ref C) (some d) (upd (del H2 a) d (.xd fs))) (fun _ _ _ => False)) : tMkO C sp dvs ta σ H Q := h
/-- self.f = e, the first field -/
theorem ost_fin {K : PySem.W.Frag} {f : Str} {a C : Addr} {y : V} {to te : TE} {D : Ends} {σ : L2.St} {H : Hp} (T : OexC K C) (hno : PySem.W.findIn K (.ref C) f = some none) (e : H a = some (exo a C none)) (h1 : ∀ Q, Q y H → te σ H Q) (h2 : ∀ Q, Q (.ref a) H → to σ H Q)
    (h : ∀ dx, H dx = none → dx ≠ a → D.nx σ (upd (upd H dx (exd dx [(f, y)])) a (exo a C (some dx)))) : tOst K f to te D σ H :=
  h1 _ (h2 _ ⟨a, C, rfl, T, hno, .inl ⟨e, h⟩⟩)
end Sup3
section K04P
/-! ### bits told by signs, plain -/
def hxc (d : Nat) : Nat := if d < 10 then 48 + d else 87 + d
def fil (n : Nat) : Nat := (4 - n % 4) % 4
def grp : List Int → List Nat
  | a :: b :: c :: d :: r => (8 * a + 4 * b + 2 * c + d).toNat :: grp r
  | _ => []
def flt : List Nat → List Int
  | [] => []
  | d :: r => ((d / 8 % 2 : Nat) : Int) :: ((d / 4 % 2 : Nat) : Int) :: ((d / 2 % 2 : Nat) : Int) :: ((d % 2 : Nat) : Int) :: flt r
def B01 (bs : List Int) : Prop := ∀ b ∈ bs, b = 0 ∨ b = 1
def whl (bs : List Int) : List Int := bs ++ List.replicate (fil bs.length) 0
/-- the text's signs -/
def hexL (bs : List Int) : List Nat := (grp (whl bs)).map hxc ++ [46, 48 + fil bs.length]
def hexS (bs : List Int) : Str := ⟨(hexL bs).toArray⟩
theorem fil_lt (n : Nat) : fil n < 4 := by unfold fil; omega
theorem whl_len (bs : List Int) : (whl bs).length % 4 = 0 := by unfold whl fil; rw [List.length_append, List.length_replicate]; omega
theorem whl_len2 (bs : List Int) : (whl bs).length = bs.length + fil bs.length := by unfold whl; rw [List.length_append, List.length_replicate]
theorem whl_b {bs : List Int} (h : B01 bs) : B01 (whl bs) := fun b hb => by
  rcases List.mem_append.mp hb with h1 | h1
  · exact h b h1
  · exact .inl (List.eq_of_mem_replicate h1)
theorem flt_len : ∀ ds : List Nat, (flt ds).length = 4 * ds.length
  | [] => rfl
  | d :: r => by
    show (flt r).length + 1 + 1 + 1 + 1 = 4 * (r.length + 1)
    rw [flt_len r]; omega
theorem flt_b : ∀ ds : List Nat, B01 (flt ds)
  | [] => fun b hb => by cases hb
  | d :: r => fun b hb => by
    simp only [flt, List.mem_cons] at hb
    rcases hb with rfl | rfl | rfl | rfl | hb
    · omega
    · omega
    · omega
    · omega
    · exact flt_b r b hb
theorem grp_flt : ∀ {ds : List Nat}, (∀ d ∈ ds, d < 16) → grp (flt ds) = ds
  | [], _ => rfl
  | d :: r, h => by
    have hd := h d (by simp)
    show (8 * ((d / 8 % 2 : Nat) : Int) + 4 * ((d / 4 % 2 : Nat) : Int) + 2 * ((d / 2 % 2 : Nat) : Int) + ((d % 2 : Nat) : Int)).toNat :: grp (flt r) = d :: r
    rw [grp_flt fun x hx => h x (List.mem_cons_of_mem _ hx)]
    congr 1
    omega
theorem flt_grp : ∀ {w : List Int}, w.length % 4 = 0 → B01 w → flt (grp w) = w
  | [], _, _ => rfl
  | [_], h, _ => by simp at h
  | [_, _], h, _ => by simp at h
  | [_, _, _], h, _ => by simp at h
  | a :: b :: c :: d :: r, h, hb => by
    have ha := hb a (by simp)
    have hb' := hb b (by simp)
    have hc := hb c (by simp)
    have hd := hb d (by simp)
    show flt ((8 * a + 4 * b + 2 * c + d).toNat :: grp r) = _
    unfold flt
    rw [flt_grp (by simp only [List.length_cons] at h; omega) fun x hx => hb x (by simp [hx])]
    have e : ∀ x y : Int, x = y → ∀ l m : List Int, l = m → x :: l = y :: m := fun x y h1 l m h2 => by rw [h1, h2]
    refine e _ _ (by omega) _ _ (e _ _ (by omega) _ _ (e _ _ (by omega) _ _ (e _ _ (by omega) _ _ rfl)))
theorem grp_lt : ∀ {w : List Int}, B01 w → ∀ d ∈ grp w, d < 16
  | [], _, d, hd => by cases hd
  | [_], _, d, hd => by cases hd
  | [_, _], _, d, hd => by cases hd
  | [_, _, _], _, d, hd => by cases hd
  | a :: b :: c :: e :: r, hb, d, hd => by
    have h1 := hb a (by simp)
    have h2 := hb b (by simp)
    have h3 := hb c (by simp)
    have h4 := hb e (by simp)
    rcases List.mem_cons.mp hd with rfl | hd
    · omega
    · exact grp_lt (fun x hx => hb x (by simp [hx])) d hd
theorem grp_len : ∀ (w : List Int), (grp w).length = w.length / 4
  | [] => rfl
  | [_] => by simp [grp]
  | [_, _] => by simp [grp]
  | [_, _, _] => by simp [grp]
  | a :: b :: c :: d :: r => by
    show (grp r).length + 1 = (r.length + 1 + 1 + 1 + 1) / 4
    rw [grp_len r]; omega
theorem grp_get : ∀ (i : Nat) (w : List Int), 4 * i + 3 < w.length → ∃ a b c d, w[4 * i]? = some a ∧ w[4 * i + 1]? = some b ∧ w[4 * i + 2]? = some c ∧ w[4 * i + 3]? = some d ∧ (grp w)[i]? = some (8 * a + 4 * b + 2 * c + d).toNat
  | 0, a :: b :: c :: d :: r, _ => ⟨a, b, c, d, rfl, rfl, rfl, rfl, rfl⟩
  | i + 1, a :: b :: c :: d :: r, h => by
    obtain ⟨a', b', c', d', h1, h2, h3, h4, h5⟩ := grp_get i r (by simp only [List.length_cons] at h; omega)
    refine ⟨a', b', c', d', ?_, ?_, ?_, ?_, h5⟩
    · rw [show 4 * (i + 1) = 4 * i + 1 + 1 + 1 + 1 by omega]; exact h1
    · rw [show 4 * (i + 1) + 1 = 4 * i + 1 + 1 + 1 + 1 + 1 by omega]; exact h2
    · rw [show 4 * (i + 1) + 2 = 4 * i + 2 + 1 + 1 + 1 + 1 by omega]; exact h3
    · rw [show 4 * (i + 1) + 3 = 4 * i + 3 + 1 + 1 + 1 + 1 by omega]; exact h4
  | 0, [], h => by simp at h
  | 0, [_], h => by simp at h
  | 0, [_, _], h => by simp at h
  | 0, [_, _, _], h => by simp at h
  | _ + 1, [], h => by simp at h
  | _ + 1, [_], h => by simp at h
  | _ + 1, [_, _], h => by simp at h; omega
  | _ + 1, [_, _, _], h => by simp at h; omega
theorem take4 {w : List Int} {n : Nat} {a b c d : Int} (h1 : w[n]? = some a) (h2 : w[n + 1]? = some b) (h3 : w[n + 2]? = some c) (h4 : w[n + 3]? = some d) : (w.drop n).take 4 = [a, b, c, d] := by
  apply List.ext_getElem?
  intro i
  match i with
  | 0 => simp [List.getElem?_take, h1]
  | 1 => simp [List.getElem?_take, h2]
  | 2 => simp [List.getElem?_take, h3]
  | 3 => simp [List.getElem?_take, h4]
  | i + 4 =>
    rw [List.getElem?_eq_none (by rw [List.length_take]; omega), List.getElem?_eq_none (by simp)]
theorem join_dg : ∀ ds : List Nat, Txt.join ("" : Str) (ds.map fun n => (⟨#[hxc n]⟩ : Str)) = ⟨(ds.map hxc).toArray⟩ := by
  intro ds
  rw [TL.join_eq]
  induction ds with
  | nil => rfl
  | cons d r ih =>
    cases r with
    | nil => rfl
    | cons x r =>
      show (⟨#[hxc d]⟩ : Str) ++ ("" : Str) ++ Str.join ("" : Str) ((x :: r).map fun n => (⟨#[hxc n]⟩ : Str)) = _
      rw [ih]
      show (⟨#[hxc d] ++ #[] ++ ((x :: r).map hxc).toArray⟩ : Str) = _
      congr 1
      apply Array.ext'
      simp
theorem sum1 : ∀ ds : List Nat, ((ds.map fun n => (⟨#[hxc n]⟩ : Str)).map (·.length)).sum = ds.length
  | [] => rfl
  | d :: r => by
    show 1 + ((r.map fun n => (⟨#[hxc n]⟩ : Str)).map (·.length)).sum = r.length + 1
    rw [sum1 r]; omega
theorem str_fl : ∀ n : Nat, n < 4 → Str.ofString (toString ((n : Nat) : Int)) = ⟨#[48 + n]⟩ := by decide +kernel
theorem dg_at : ∀ n : Nat, n < 16 → ("0123456789abcdef" : Str).cps.toList[n]? = some (hxc n) := by decide +kernel
theorem fl_at : ∀ n : Nat, n < 4 → ("0123" : Str).cps.toList[n]? = some (48 + n) := by decide +kernel
/-- the text of just these bits: signs of digits, a point, how many were filled -/
theorem hex_iff {ks : List Int} {cs : List Nat} : (B01 ks ∧ hexL ks = cs) ↔ ∃ (ds : List Nat) (f : Nat), (∀ d ∈ ds, d < 16) ∧ f < 4 ∧ cs = ds.map hxc ++ [46, 48 + f] ∧ f ≤ (flt ds).length ∧ (∀ b ∈ (flt ds).drop ((flt ds).length - f), b = 0) ∧ ks = (flt ds).take ((flt ds).length - f) := by
  constructor
  · rintro ⟨hb, rfl⟩
    refine ⟨grp (whl ks), fil ks.length, grp_lt (whl_b hb), fil_lt _, rfl, ?_⟩
    rw [flt_grp (whl_len ks) (whl_b hb), whl_len2, Nat.add_sub_cancel]
    refine ⟨by omega, fun b hb => ?_, ?_⟩
    · unfold whl at hb
      rw [List.drop_left] at hb
      exact List.eq_of_mem_replicate hb
    · unfold whl
      rw [List.take_left]
  · rintro ⟨ds, f, hd, hf, rfl, hl, hz, rfl⟩
    have el : ((flt ds).take ((flt ds).length - f)).length = (flt ds).length - f := by rw [List.length_take]; omega
    have ef : fil ((flt ds).length - f) = f := by
      have := flt_len ds
      unfold fil; omega
    have ew : whl ((flt ds).take ((flt ds).length - f)) = flt ds := by
      unfold whl
      rw [el, ef]
      have e2 : List.replicate f (0 : Int) = (flt ds).drop ((flt ds).length - f) := by
        symm
        refine List.eq_replicate_iff.mpr ⟨by rw [List.length_drop]; omega, hz⟩
      rw [e2, List.take_append_drop]
    refine ⟨fun b hb => flt_b ds b (List.mem_of_mem_take hb), ?_⟩
    unfold hexL
    rw [ew, grp_flt hd, el, ef]
/-- what a text tells: Tell cs ks: just the bits ks; else it is refused -/
def TellT (t : Str) (ks : List Int) : Prop := B01 ks ∧ hexL ks = t.cps.toList
theorem tell_hex {ks : List Int} (h : B01 ks) : TellT (hexS ks) ks := ⟨h, rfl⟩
theorem tell_inj {t : Str} {ks ls : List Int} (h1 : TellT t ks) (h2 : TellT t ls) : ks = ls := by
  obtain ⟨ds, f, a1, a2, a3, a4, a5, a6⟩ := hex_iff.mp h1
  obtain ⟨es, g, b1, b2, b3, b4, b5, b6⟩ := hex_iff.mp h2
  have hh : ∀ a b : Nat, a < 16 → b < 16 → hxc a = hxc b → a = b := fun a b ha hb e => by
    unfold hxc at e
    split at e <;> split at e <;> omega
  have e := a3.symm.trans b3
  have el : ds.length = es.length := by
    have z := congrArg List.length e
    simp only [List.length_append, List.length_map, List.length_cons, List.length_nil] at z
    omega
  obtain ⟨e1, e2⟩ := List.append_inj e (by rw [List.length_map, List.length_map, el])
  have ef : f = g := by
    simp only [List.cons.injEq, and_true, true_and] at e2
    omega
  have ed : ds = es := by
    clear a3 b3 a4 a5 a6 b4 b5 b6 e e2
    induction ds generalizing es with
    | nil =>
      cases es with
      | nil => rfl
      | cons _ _ => simp at el
    | cons d ds ih =>
      cases es with
      | nil => simp at el
      | cons x es =>
        rw [List.map_cons, List.map_cons, List.cons.injEq] at e1
        rw [hh d x (a1 d (by simp)) (b1 x (by simp)) e1.1, ih (fun y hy => a1 y (by simp [hy])) es (fun y hy => b1 y (by simp [hy])) (by simpa using el) e1.2]
  subst ef ed
  rw [a6, b6]
theorem hxc_ne (d : Nat) : hxc d ≠ 46 := by unfold hxc; split <;> omega
theorem dgs_eq : ("0123456789abcdef" : Str).cps.toList = (List.range 16).map hxc := by decide +kernel
theorem dg_iff {c : Nat} : c ∈ ("0123456789abcdef" : Str).cps.toList ↔ ∃ d, d < 16 ∧ c = hxc d := by
  rw [dgs_eq, List.mem_map]
  constructor
  · rintro ⟨d, h, rfl⟩; exact ⟨d, List.mem_range.mp h, rfl⟩
  · rintro ⟨d, h, rfl⟩; exact ⟨d, List.mem_range.mpr h, rfl⟩
theorem fls_iff {c : Nat} : c ∈ ("0123" : Str).cps.toList ↔ ∃ f, f < 4 ∧ c = 48 + f := by
  have e : ("0123" : Str).cps.toList = [48, 49, 50, 51] := by decide +kernel
  rw [e]
  constructor
  · intro h
    simp only [List.mem_cons, List.not_mem_nil, or_false] at h
    exact ⟨c - 48, by omega, by omega⟩
  · rintro ⟨f, h, rfl⟩
    simp only [List.mem_cons, List.not_mem_nil, or_false]
    omega
theorem all_dg : ∀ {a : List Nat}, (∀ c ∈ a, c ∈ ("0123456789abcdef" : Str).cps.toList) → ∃ ds : List Nat, (∀ d ∈ ds, d < 16) ∧ a = ds.map hxc
  | [], _ => ⟨[], fun _ h => (by cases h), rfl⟩
  | c :: r, h => by
    obtain ⟨ds, h1, rfl⟩ := all_dg (a := r) fun x hx => h x (List.mem_cons_of_mem _ hx)
    obtain ⟨d, hd, rfl⟩ := dg_iff.mp (h c (by simp))
    exact ⟨d :: ds, fun x hx => (List.mem_cons.mp hx).elim (fun e => e ▸ hd) (h1 x), rfl⟩
theorem at_uniq {x : Nat} : ∀ {a c b d : List Nat}, x ∉ a → x ∉ c → a ++ x :: b = c ++ x :: d → a = c ∧ b = d
  | [], [], _, _, _, _, h => ⟨rfl, (List.cons.inj h).2⟩
  | [], y :: c, _, _, _, h2, h => absurd (by rw [(List.cons.inj h).1]; simp) h2
  | y :: a, [], _, _, h1, _, h => absurd (by rw [(List.cons.inj h).1]; simp) h1
  | y :: a, z :: c, b, d, h1, h2, h => by
    obtain ⟨e1, e2⟩ := List.cons.inj h
    obtain ⟨r1, r2⟩ := at_uniq (fun m => h1 (List.mem_cons_of_mem _ m)) (fun m => h2 (List.mem_cons_of_mem _ m)) e2
    exact ⟨by rw [e1, r1], r2⟩
theorem hxc_inj {a b : Nat} (ha : a < 16) (hb : b < 16) (e : hxc a = hxc b) : a = b := by
  unfold hxc at e
  split at e <;> split at e <;> omega
theorem tell_uniq : ∀ {ds es : List Nat}, (∀ d ∈ ds, d < 16) → (∀ d ∈ es, d < 16) → ds.map hxc = es.map hxc → ds = es
  | [], [], _, _, _ => rfl
  | [], _ :: _, _, _, h => by simp at h
  | _ :: _, [], _, _, h => by simp at h
  | d :: ds, e :: es, h1, h2, h => by
    rw [List.map_cons, List.map_cons, List.cons.injEq] at h
    rw [hxc_inj (h1 d (by simp)) (h2 e (by simp)) h.1, tell_uniq (fun x hx => h1 x (List.mem_cons_of_mem _ hx)) (fun x hx => h2 x (List.mem_cons_of_mem _ hx)) h.2]
/-- what is asked of the signs around the first point -/
def TellAt (a b : List Nat) (ks : List Int) : Prop := ∃ (ds : List Nat) (f : Nat), (∀ d ∈ ds, d < 16) ∧ f < 4 ∧ a = ds.map hxc ∧ b = [48 + f] ∧ f ≤ (flt ds).length ∧ (∀ x ∈ (flt ds).drop ((flt ds).length - f), x = 0) ∧ ks = (flt ds).take ((flt ds).length - f)
theorem no_pt {ds : List Nat} : 46 ∉ ds.map hxc := fun h => by
  obtain ⟨d, _, e⟩ := List.mem_map.mp h
  exact hxc_ne d e
theorem tell_at {t : Str} {a b : List Nat} (e : t.cps.toList = a ++ 46 :: b) (ha : 46 ∉ a) {ks : List Int} : TellT t ks ↔ TellAt a b ks := by
  unfold TellT
  rw [hex_iff, e]
  constructor
  · rintro ⟨ds, f, h1, h2, h3, h4, h5, h6⟩
    obtain ⟨r1, r2⟩ := at_uniq ha no_pt h3
    exact ⟨ds, f, h1, h2, r1, r2, h4, h5, h6⟩
  · rintro ⟨ds, f, h1, h2, rfl, rfl, h4, h5, h6⟩
    exact ⟨ds, f, h1, h2, rfl, h4, h5, h6⟩
theorem tell_end {t : Str} {a : List Nat} {x y : Nat} (e : t.cps.toList = a ++ [x, y]) {ks : List Int} : TellT t ks ↔ x = 46 ∧ TellAt a [y] ks := by
  unfold TellT
  rw [hex_iff, e]
  constructor
  · rintro ⟨ds, f, h1, h2, h3, h4, h5, h6⟩
    obtain ⟨r1, r2⟩ := List.append_inj' h3 rfl
    simp only [List.cons.injEq, and_true] at r2
    exact ⟨r2.1, ds, f, h1, h2, r1, by rw [r2.2], h4, h5, h6⟩
  · rintro ⟨rfl, ds, f, h1, h2, rfl, h3, h4, h5, h6⟩
    refine ⟨ds, f, h1, h2, ?_, h4, h5, h6⟩
    rw [List.cons.inj h3 |>.1]
theorem tell_pt {t : Str} {ks : List Int} (h : TellT t ks) : 46 ∈ t.cps.toList ∧ 2 ≤ t.cps.toList.length := by
  rw [← h.2]
  unfold hexL
  simp
theorem cut_pt : ∀ {l : List Nat}, 46 ∈ l → ∃ a b, 46 ∉ a ∧ l = a ++ 46 :: b
  | c :: r, h => by
    by_cases hc : c = 46
    · exact ⟨[], r, by simp, by rw [hc]; rfl⟩
    · obtain ⟨a, b, h1, h2⟩ := cut_pt (l := r) ((List.mem_cons.mp h).resolve_left fun e => hc e.symm)
      exact ⟨c :: a, b, fun m => (List.mem_cons.mp m).elim (fun e => hc e.symm) h1, by rw [h2]; rfl⟩
theorem dg_occ : ∀ n : Nat, n < 16 → Builtin.Str.occurrences ("0123456789abcdef" : Str) ⟨#[hxc n]⟩ 0 (("0123456789abcdef" : Str).length) 1 = [n] := by decide +kernel
theorem fl_occ : ∀ n : Nat, n < 4 → Builtin.Str.occurrences ("0123" : Str) ⟨#[48 + n]⟩ 0 (("0123" : Str).length) 1 = [n] := by decide +kernel
theorem text_fl : ∀ n : Nat, n < 4 → PySem.intText? ⟨#[48 + n]⟩ = some (n : Int) := by decide +kernel
theorem fix4 : ∀ n : Nat, n < 16 → fixL 4 n = flt [n] := by decide +kernel
theorem flt_snoc : ∀ (ds : List Nat) (d : Nat), flt (ds ++ [d]) = flt ds ++ flt [d]
  | [], _ => rfl
  | x :: r, d => by
    show _ :: _ :: _ :: _ :: flt (r ++ [d]) = _ :: _ :: _ :: _ :: (flt r ++ flt [d])
    rw [flt_snoc r d]

/-- signs that there are -/
def SgT (t : Str) : Prop := ∀ c ∈ t.cps.toList, c < 1114112
open PyData in
theorem depthAll_strs : ∀ ns : List Str, depthAll (ns.map PyData.str) ≤ 1
  | [] => by simp [depthAll]
  | n :: ns => by
    have := depthAll_strs ns
    simp only [List.map_cons, depthAll, depth]
    omega
open PyData in
theorem canLay_strs : ∀ ns : List Str, (∀ x ∈ ns, SgT x) → canLayAll0 (ns.map PyData.str) = true
  | [], _ => rfl
  | n :: ns, h => by
    simp only [List.map_cons, canLayAll0, canLay0, canLay_strs ns fun x hx => h x (List.mem_cons_of_mem _ hx), Bool.and_true]
    show Array.all n.cps _ = true
    rw [← Array.all_toList, List.all_eq_true]
    exact fun c hc => decide_eq_true (h n (by simp) c hc)
theorem shaped_strs (ns : List Str) (hs : ∀ x ∈ ns, SgT x) : SeqAt.shaped (.list (ns.map .str)) = true := by
  have h := depthAll_strs ns
  have e : (PyData.list (ns.map .str)).depth = PyData.depthAll (ns.map .str) + 1 := by rw [PyData.depth]
  exact Bool.and_eq_true_iff.mpr ⟨by rw [PyData.canLay0]; exact canLay_strs ns hs, decide_eq_true (by rw [e]; omega)⟩
theorem dp_all_strs {K : PySem.W.Frag} {H : Hp} : ∀ ns : List Str, DpAll K H (ns.map V.str) (ns.map .str)
  | [] => .nil
  | n :: ns => .cons (.str n) (dp_all_strs ns)
theorem dp_strs {K : PySem.W.Frag} {H : Hp} {a : Addr} {ns : List Str} (h : SqL K H a (ns.map V.str)) : Dp K H (.ref a) (.list (ns.map .str)) := .lst h (dp_all_strs ns)
theorem s_neStrs0 {K : PySem.W.Frag} {H : Hp} {Q : VK} {a b : Addr} {ns : List Str} (hs : ∀ x ∈ ns, SgT x) (h1 : SqL K H a (ns.map V.str)) (h2 : SqL K H b []) (q : Q (.bl (!decide (ns = []))) H) : rNeD K (.ref a) (.ref b) H Q :=
  ⟨_, _, dp_strs h1, .lst h2 .nil, shaped_strs _ hs, shaped_strs [] (fun _ h => by cases h), by
    have e : PyData.eqv (.list (ns.map .str)) (.list []) = decide (ns = []) := by
      rw [PyData.eqv]
      cases ns <;> simp [PyData.eqvAll]
    rw [e]; exact q⟩
theorem inFl (b : List Nat) : inV (.str ⟨b.toArray⟩) [.str "0", .str "1", .str "2", .str "3"] = decide (∃ f, f < 4 ∧ b = [48 + f]) := by
  have e : ∀ (y : Str) (l : List Nat), y.cps = l.toArray → (eqV (.str y) (.str ⟨b.toArray⟩) = true ↔ b = l) := by
    rintro ⟨y⟩ l h
    dsimp only at h
    subst h
    show (((⟨l.toArray⟩ : Str) == ⟨b.toArray⟩) = true) ↔ _
    rw [beq_iff_eq]
    constructor
    · intro h
      have : l = b := congrArg (fun z : Str => z.cps.toList) h
      exact this.symm
    · rintro rfl; rfl
  rw [Bool.eq_iff_iff, decide_eq_true_iff]
  unfold inV
  simp only [List.any_cons, List.any_nil, Bool.or_false, Bool.or_eq_true]
  rw [e _ [48] (by decide +kernel), e _ [49] (by decide +kernel), e _ [50] (by decide +kernel), e _ [51] (by decide +kernel)]
  constructor
  · rintro (h | h | h | h)
    · exact ⟨0, by omega, h⟩
    · exact ⟨1, by omega, h⟩
    · exact ⟨2, by omega, h⟩
    · exact ⟨3, by omega, h⟩
  · rintro ⟨f, hf, h⟩
    match f, hf with
    | 0, _ => exact .inl h
    | 1, _ => exact .inr (.inl h)
    | 2, _ => exact .inr (.inr (.inl h))
    | 3, _ => exact .inr (.inr (.inr h))
theorem two_ends {l : List Nat} (h : 2 ≤ l.length) : ∃ a x y, l = a ++ [x, y] := by
  refine ⟨l.take (l.length - 2), l[l.length - 2], l[l.length - 1], ?_⟩
  apply List.ext_getElem?
  intro i
  rw [List.getElem?_append, List.length_take]
  split
  · rw [List.getElem?_take, if_pos (by omega)]
  · rename_i h1
    have : i = l.length - 2 ∨ i = l.length - 1 ∨ l.length ≤ i := by omega
    rcases this with rfl | rfl | h2
    · rw [List.getElem?_eq_getElem (by omega), show l.length - 2 - min (l.length - 2) l.length = 0 by omega]; rfl
    · rw [List.getElem?_eq_getElem (by omega), show l.length - 1 - min (l.length - 2) l.length = 1 by omega]; rfl
    · rw [List.getElem?_eq_none h2, List.getElem?_eq_none (by simp; omega)]
theorem atI_last2 {α : Type} (xs : List α) (v u : α) : atI (xs ++ [v, u]) (-2) = some v := by
  have hl : (xs ++ [v, u]).length = xs.length + 2 := by simp
  unfold atI ixN
  rw [hl, if_neg (by decide), if_pos (by omega)]
  show (xs ++ [v, u])[((-2 : Int) + ((xs.length + 2 : Nat) : Int)).toNat]? = some v
  have e : ((-2 : Int) + ((xs.length + 2 : Nat) : Int)).toNat = xs.length := by omega
  rw [e]; simp
/-- what signs are worth -/
def unx (c : Nat) : Nat := if c < 58 then c - 48 else c - 87
def dgv (a : List Nat) : List Nat := a.map unx
theorem unx_hxc : ∀ d : Nat, d < 16 → unx (hxc d) = d := by decide +kernel
theorem sg_cut {z : Str} (h : SgT z) (a b : Option Int) : SgT (cutS z a b) := fun c hc => h c (List.mem_of_mem_drop (List.mem_of_mem_take hc))
theorem sg_app {a b : Str} (h : SgT a) (g : SgT b) : SgT (a ++ b) := fun c hc => by
  have e : (a ++ b).cps.toList = a.cps.toList ++ b.cps.toList := Array.toList_append
  rw [e, List.mem_append] at hc
  exact hc.elim (h c) (g c)
theorem len_app (a b : Str) : (a ++ b).length = a.length + b.length := Array.size_append
/-- some text of so many signs at most -/
def OkS (n : Nat) (v : V) : Prop := ∃ s : Str, v = .str s ∧ SgT s ∧ s.length ≤ n
theorem lits {n : Nat} (xs : List Str) (h : (xs.all fun s => s.cps.toList.all (fun c => decide (c < 1114112)) && decide (s.length ≤ n)) = true) : ∀ v ∈ xs.map V.str, OkS n v := fun v hv => by
  obtain ⟨s, hs, rfl⟩ := List.mem_map.mp hv
  have := List.all_eq_true.mp h s hs
  rw [Bool.and_eq_true, List.all_eq_true, decide_eq_true_iff] at this
  exact ⟨s, rfl, fun c hc => of_decide_eq_true (this.1 c hc), this.2⟩
theorem s_slS {z : Str} {a b : Option Int} {H : Hp} {Q : VK} (h : z.length ≤ 100000) (q : Q (.str (cutS z a b)) H) : rSlS (.str z) a b H Q := ⟨_, rfl, Nat.le_trans h (by decide), q⟩
theorem s_catS {a b : Str} {R : Str → Prop} (h : a.length + b.length ≤ 100000) (q : R (a ++ b)) : ∃ i j, V.str a = V.str i ∧ V.str b = V.str j ∧ i.length + j.length ≤ sizeLine ∧ R (i ++ j) := ⟨_, _, rfl, rfl, Nat.le_trans h (by decide), q⟩
theorem none_of {S : Addr → Prop} {F H F1 H1 : Hp} {d : Addr} (st : Stp S F H F1 H1) (h : H1 d = none) : H d = none := by
  cases e : H d with
  | none => rfl
  | some o =>
    obtain ⟨o', e'⟩ := st.dom d o e
    rw [h] at e'; cases e'
theorem hexS_len (bs : List Int) : (hexS bs).length ≤ bs.length / 4 + 3 := by
  show (hexL bs).toArray.size ≤ _
  unfold hexL
  have h1 := whl_len2 bs
  have h2 := fil_lt bs.length
  simp only [List.size_toArray, List.length_append, List.length_map, grp_len, List.length_cons, List.length_nil]
  omega
theorem hexS_sg {bs : List Int} (h : B01 bs) : SgT (hexS bs) := fun c hc => by
  have : c ∈ hexL bs := hc
  unfold hexL at this
  rcases List.mem_append.mp this with h1 | h1
  · obtain ⟨d, hd, rfl⟩ := List.mem_map.mp h1
    have := grp_lt (whl_b h) d hd
    unfold hxc
    split <;> omega
  · have := fil_lt bs.length
    simp only [List.mem_cons, List.not_mem_nil, or_false] at h1
    omega
def toldD (ks : List Int) : PyData := .tuple [.str (Str.ofString "told"), .list (ks.map .int)]
theorem shaped_told (ks : List Int) : SeqAt.shaped (toldD ks) = true := by
  have h := depthAll_ints ks
  have e1 : (PyData.list (ks.map .int)).depth = PyData.depthAll (ks.map .int) + 1 := by rw [PyData.depth]
  have e : (toldD ks).depth ≤ 3 := by
    unfold toldD
    rw [PyData.depth]
    simp only [PyData.depthAll, e1, PyData.depth]
    omega
  refine Bool.and_eq_true_iff.mpr ⟨?_, decide_eq_true (by omega)⟩
  unfold toldD
  rw [PyData.canLay0]
  simp only [PyData.canLayAll0, PyData.canLay0, canLay_ints, Bool.and_true]
  decide +kernel
theorem s_neSame {K : PySem.W.Frag} {H : Hp} {Q : VK} {x y : V} {d : PyData} (h1 : Dp K H x d) (h2 : Dp K H y d) (hs : SeqAt.shaped d = true) (q : Q (.bl false) H) : rNeD K x y H Q :=
  ⟨d, d, h1, h2, hs, hs, by rw [SeqAt.eqv_refl _ (SeqAt.canLay_of_shaped hs)]; exact q⟩
theorem s_eqSame {K : PySem.W.Frag} {H : Hp} {Q : VK} {x y : V} {d : PyData} (h1 : Dp K H x d) (h2 : Dp K H y d) (hs : SeqAt.shaped d = true) (q : Q (.bl true) H) : rEqD K x y H Q :=
  ⟨d, d, h1, h2, hs, hs, by rw [SeqAt.eqv_refl _ (SeqAt.canLay_of_shaped hs)]; exact q⟩
end K04P
open PySem L2
/-! one step that needs no thought -/
local macro_rules | `(tactic| walk_at "cond") => `(tactic| first
  | decide
  | exact .inl ⟨by decide, by decide⟩
  | exact .inr ⟨by decide, by decide⟩
  | exact ⟨by decide, by decide⟩
  | exact ⟨by decide, by decide, by decide⟩
  | assumption
  | (show (0 : Int) < _; omega)
  | (show (0 : Int) ≤ _; omega)
  | exact .inl ⟨by omega, by omega⟩
  | exact .inr ⟨by omega, by omega⟩
  | exact ⟨by omega, by omega⟩
  | exact ⟨by omega, by omega, by omega⟩)
local macro_rules | `(tactic| walk_at "sq") => `(tactic| first
  | assumption
  | exact SqL.of (by assumption)
  | exact SqT.of (by assumption)
  | exact SqL.of upd_same
  | exact SqT.of upd_same)
local macro_rules | `(tactic| walk_at "r1") => `(tactic| first
  | (with_reducible refine s_seq ?_)
  | (with_reducible refine s_next ?_)
  | (with_reducible refine s_asg ?_)
  | (with_reducible refine s_gname ?_)
  | (with_reducible refine s_ret ?_)
  | (with_reducible refine s_if ?_)
  | (with_reducible refine s_drop ?_)
  | (with_reducible refine s_op ?_)
  | (with_reducible refine s_c ?_)
  | (with_reducible refine s_tup ?_)
  | (with_reducible refine s_lst ?_)
  | (with_reducible refine s_nil ?_)
  | (with_reducible refine s_cons ?_)
  | (with_reducible refine s_call ?_)
  | (with_reducible refine s_cb ?_)
  | (with_reducible refine s_test ?_)
  | (with_reducible refine s_tB ?_)
  | (with_reducible refine s_b ?_)
  | (with_reducible refine s_not ?_)
  | (with_reducible refine s_and ?_)
  | (with_reducible refine s_or ?_)
  | (with_reducible refine s_un ?_)
  | (with_reducible refine s_U ?_)
  | (with_reducible refine s_ifE ?_)
  | (with_reducible refine s_andV0 ?_)
  | (with_reducible refine s_orV0 ?_)
  | (with_reducible refine s_notV ?_)
  | (with_reducible refine s_I0 ?_)
  | (with_reducible refine s_chain ?_)
  | (with_reducible refine s_par3 ?_)
  | (with_reducible refine s_par ?_)
  | (with_reducible refine s_v2 ?_)
  | (with_reducible refine s_v3 ?_)
  | (with_reducible refine s_eqI ?_)
  | (with_reducible refine s_neI ?_)
  | (with_reducible refine s_eqS ?_)
  | (with_reducible refine s_neS ?_)
  | (with_reducible refine s_max2 ?_)
  | (with_reducible refine s_min2 ?_)
  | (with_reducible refine s_int1 ?_)
  | (with_reducible refine s_int1b ?_)
  | ((with_reducible refine' s_var ?h ?q); (case h => rfl))
  | (with_reducible refine s_for ?_)
  | (with_reducible refine s_iR1 ?_)
  | (with_reducible refine s_iR2 ?_)
  | (with_reducible refine s_iR3 ?_)
  | (with_reducible refine s_sl ?_)
  | (with_reducible refine s_part ?_)
  | (with_reducible refine s_nopart ?_)
  | (with_reducible refine s_iL ?_)
  | (with_reducible refine s_iT ?_)
  | (with_reducible refine s_iS ?_)
  | (with_reducible refine s_lc ?_)
  | (with_reducible refine s_yes ?_)
  | ((with_reducible refine' s_wipe ?h ?q); (case h => rfl))
  | (with_reducible refine s_callK0 ?_)
  | (with_reducible refine s_bits ?_)
  | (with_reducible refine s_i ?_)
  | (with_reducible refine s_bm ?_)
  | (with_reducible refine s_bm0 ?_)
  | (with_reducible refine s_m1 ?_)
  | (with_reducible refine s_callK ?_)
  | (with_reducible refine s_gsub ?_)
  | ((with_reducible refine' s_gtup ?h ?e ?q); (case h => walk_at "sq"); (case e => rfl))
  | (with_reducible refine s_gcons ?_)
  | (with_reducible refine s_gnil ?_)
  | ((with_reducible refine s_I ?c ?q); (case c => walk_at "cond"))
  | ((with_reducible refine' s_ixL ?h ?a ?q); (case h => walk_at "sq"); (case a => rfl))
  | ((with_reducible refine' s_ixT ?h ?a ?q); (case h => walk_at "sq"); (case a => rfl))
  | ((with_reducible refine' s_setL ?h ?a ?q); (case h => first | assumption | exact upd_same); (case a => rfl))
  | ((with_reducible refine' s_len ?h ?q); (case h => walk_at "sq"))
  | ((with_reducible refine' s_lenT ?h ?q); (case h => walk_at "sq"))
  | (with_reducible refine iteT ?_)
  | (with_reducible refine iteF ?_)
  | (with_reducible refine itNF ?_)
  | (with_reducible refine itNT ?_))
local macro_rules | `(tactic| walk_at "r") => `(tactic| (repeat walk_at "r1"))
local macro_rules | `(tactic| walk_at "r1") => `(tactic| (with_reducible refine s_fmtB ?_))
local macro_rules | `(tactic| walk_at "r1") => `(tactic| (with_reducible refine s_callS ?_))
def topS (i : Nat) : Stmt := PySem.Challenge.pw_narrowingbits_k04_hex_texts_both_ways.main.body.getD i (.Pass ⟨0, 0, 0, 0⟩)
structure Zs (K : PySem.W.Frag) (mg : Str → Option Value) : Prop where
  z_bool : mg "bool" = none
  z_int : mg "int" = none
  z_isinstance : mg "isinstance" = none
  z_len : mg "len" = none
  z_list : mg "list" = none
  z_max : mg "max" = none
  z_min : mg "min" = none
  z_range : mg "range" = none
  z_str : mg "str" = none
  z_super : mg "super" = none
  e_DIGITS : ∃ t, mg "DIGITS" = some (.str "0123456789abcdef" t)
  x_BadBits : ExF K mg "BadBits"
  x_BadText : ExG K mg "BadText"
  x_NarrowError : ExF K mg "NarrowError"
  x_Outside : ExF K mg "Outside"
  f_BadText_row : PySem.W.findIn K (.ref (exA mg "BadText")) "row" = some none
  s_BadBits_BadBits : PySem.W.subIn K (.ref (exA mg "BadBits")) (.ref (exA mg "BadBits")) = some true
  k_BadBits_BadBits : PySem.W.kitOne K (.ref (exA mg "BadBits")) (.ref (exA mg "BadBits")) = some true
  s_BadBits_BadText : PySem.W.subIn K (.ref (exA mg "BadBits")) (.ref (exA mg "BadText")) = some false
  k_BadBits_BadText : PySem.W.kitOne K (.ref (exA mg "BadBits")) (.ref (exA mg "BadText")) = some false
  s_BadBits_NarrowError : PySem.W.subIn K (.ref (exA mg "BadBits")) (.ref (exA mg "NarrowError")) = some true
  k_BadBits_NarrowError : PySem.W.kitOne K (.ref (exA mg "BadBits")) (.ref (exA mg "NarrowError")) = some true
  s_BadBits_Outside : PySem.W.subIn K (.ref (exA mg "BadBits")) (.ref (exA mg "Outside")) = some false
  k_BadBits_Outside : PySem.W.kitOne K (.ref (exA mg "BadBits")) (.ref (exA mg "Outside")) = some false
  s_BadText_BadBits : PySem.W.subIn K (.ref (exA mg "BadText")) (.ref (exA mg "BadBits")) = some false
  k_BadText_BadBits : PySem.W.kitOne K (.ref (exA mg "BadText")) (.ref (exA mg "BadBits")) = some false
  s_BadText_BadText : PySem.W.subIn K (.ref (exA mg "BadText")) (.ref (exA mg "BadText")) = some true
  k_BadText_BadText : PySem.W.kitOne K (.ref (exA mg "BadText")) (.ref (exA mg "BadText")) = some true
  s_BadText_NarrowError : PySem.W.subIn K (.ref (exA mg "BadText")) (.ref (exA mg "NarrowError")) = some true
  k_BadText_NarrowError : PySem.W.kitOne K (.ref (exA mg "BadText")) (.ref (exA mg "NarrowError")) = some true
  s_BadText_Outside : PySem.W.subIn K (.ref (exA mg "BadText")) (.ref (exA mg "Outside")) = some false
  k_BadText_Outside : PySem.W.kitOne K (.ref (exA mg "BadText")) (.ref (exA mg "Outside")) = some false
  s_NarrowError_BadBits : PySem.W.subIn K (.ref (exA mg "NarrowError")) (.ref (exA mg "BadBits")) = some false
  k_NarrowError_BadBits : PySem.W.kitOne K (.ref (exA mg "NarrowError")) (.ref (exA mg "BadBits")) = some false
  s_NarrowError_BadText : PySem.W.subIn K (.ref (exA mg "NarrowError")) (.ref (exA mg "BadText")) = some false
  k_NarrowError_BadText : PySem.W.kitOne K (.ref (exA mg "NarrowError")) (.ref (exA mg "BadText")) = some false
  s_NarrowError_NarrowError : PySem.W.subIn K (.ref (exA mg "NarrowError")) (.ref (exA mg "NarrowError")) = some true
  k_NarrowError_NarrowError : PySem.W.kitOne K (.ref (exA mg "NarrowError")) (.ref (exA mg "NarrowError")) = some true
  s_NarrowError_Outside : PySem.W.subIn K (.ref (exA mg "NarrowError")) (.ref (exA mg "Outside")) = some false
  k_NarrowError_Outside : PySem.W.kitOne K (.ref (exA mg "NarrowError")) (.ref (exA mg "Outside")) = some false
  s_Outside_BadBits : PySem.W.subIn K (.ref (exA mg "Outside")) (.ref (exA mg "BadBits")) = some false
  k_Outside_BadBits : PySem.W.kitOne K (.ref (exA mg "Outside")) (.ref (exA mg "BadBits")) = some false
  s_Outside_BadText : PySem.W.subIn K (.ref (exA mg "Outside")) (.ref (exA mg "BadText")) = some false
  k_Outside_BadText : PySem.W.kitOne K (.ref (exA mg "Outside")) (.ref (exA mg "BadText")) = some false
  s_Outside_NarrowError : PySem.W.subIn K (.ref (exA mg "Outside")) (.ref (exA mg "NarrowError")) = some true
  k_Outside_NarrowError : PySem.W.kitOne K (.ref (exA mg "Outside")) (.ref (exA mg "NarrowError")) = some true
  s_Outside_Outside : PySem.W.subIn K (.ref (exA mg "Outside")) (.ref (exA mg "Outside")) = some true
  k_Outside_Outside : PySem.W.kitOne K (.ref (exA mg "Outside")) (.ref (exA mg "Outside")) = some true
  t_FILLINGS : mg "FILLINGS" = some (.ref (exA mg "FILLINGS")) ∧ ∀ H, SqT K H (exA mg "FILLINGS") [.str "0", .str "1", .str "2", .str "3"]
theorem Zs.c_DIGITS {K : PySem.W.Frag} {mg : Str → Option Value} (Z : Zs K mg) : mg "DIGITS" = some (.str "0123456789abcdef" (Classical.choose Z.e_DIGITS)) := Classical.choose_spec Z.e_DIGITS
def bitsV (w n : Nat) : List V := (fixL w n).map V.int
def Bits (bs : List Int) : Prop := ∀ b ∈ bs, isBit b
def goodV (x : V) : Bool := match x with
  | .int b => decide (0 ≤ b) && decide (b ≤ 1)
  | _ => false
/-- the things that lie in a list of bits, or spoil it -/
inductive Thg (H : Hp) : V → Prop
  | int (i : Int) : Thg H (.int i)
  | non : Thg H .non
  | str (s : Str) : Thg H (.str s)
  | lst {a : Addr} {xs : List V} (h : H a = some (.lst xs)) : Thg H (.ref a)
def sp_BadText___init__ (K : PySem.W.Frag) (mg : Str → Option Value) : Sp := spSup (exA mg "BadText") "row" (fun x => ∃ i : Int, x = .int i ∧ i.natAbs.log2 < 1920 ∧ (Str.ofString (toString i)).length ≤ 1000)
def sp_is_bit (_ : PySem.W.Frag) (_ : Str → Option Value) : Sp := SpN 1 fun vs H Q _ => ∃ x, vs = [x] ∧ Thg H x ∧ Q (.bl (goodV x)) H
def sp_check_bits (K : PySem.W.Frag) (mg : Str → Option Value) : Sp := SpN 1 fun vs H Q E => ∃ (a : Addr) (xs : List V), vs = [.ref a] ∧ SqL K H a xs ∧ (∀ x ∈ xs, Thg H x) ∧
  ((xs.all goodV = true ∧ Q .non H) ∨ (xs.all goodV = false ∧ E (.ref (exA mg "BadBits")) none H))
def sp_number_of (K : PySem.W.Frag) (_ : Str → Option Value) : Sp := SpN 1 fun vs H Q _ => ∃ (a : Addr) (bs : List Int), vs = [.ref a] ∧ SqL K H a (bs.map V.int) ∧ Q (.int (numL bs)) H
def sp_fixed (_ : PySem.W.Frag) (_ : Str → Option Value) : Sp := SpN 2 fun vs H Q _ => ∃ (n w : Int), vs = [.int n, .int w] ∧ 0 ≤ n ∧ 0 ≤ w ∧ w ≤ 10000 ∧ n.toNat < 2 ^ w.toNat ∧
  ∀ p H', Same H H' → H p = none → H' p = some (.lst (bitsV w.toNat n.toNat)) → Q (.ref p) H'
def sp_hex_of (K : PySem.W.Frag) (mg : Str → Option Value) : Sp := SpN 1 fun vs H Q E => ∃ (a : Addr) (xs : List V), vs = [.ref a] ∧ SqL K H a xs ∧ (∀ x ∈ xs, Thg H x) ∧ xs.length ≤ 1000 ∧
  ((∃ bs, xs = bs.map V.int ∧ B01 bs ∧ ∀ H', Same H H' → Q (.str (hexS bs)) H') ∨ (xs.all goodV = false ∧ E (.ref (exA mg "BadBits")) none H))
def sp_bits_of (_ : PySem.W.Frag) (mg : Str → Option Value) : Sp := SpN 1 fun vs H Q E => ∃ (t : Str), vs = [.str t] ∧ SgT t ∧ t.length ≤ 1000 ∧
  (∀ ks, TellT t ks → ∀ p H', Same H H' → H p = none → H' p = some (.lst (ks.map V.int)) → Q (.ref p) H') ∧
  ((¬ ∃ ks, TellT t ks) → ∀ d H', Same H H' → H d = none → H' d = some (.xd [("row", .int 0)]) → E (.ref (exA mg "BadText")) (some d) H')
def sp_law_pool (K : PySem.W.Frag) (_ : Str → Option Value) : Sp := SpN 2 fun vs H Q _ => ∃ (s : Addr) (ns : List Int) (k : Int), vs = [.ref s, .int k] ∧ SqL K H s (ns.map V.int) ∧ 0 ≤ k ∧ k < 100 ∧
  ∀ p H', Src H H' p → Q (.ref p) H'
def sp_law_take (_ : PySem.W.Frag) (_ : Str → Option Value) : Sp := SpN 2 fun vs H Q _ => ∃ (F : Hp) (p : Addr) (t : Int), vs = [.ref p, .int t] ∧ Src F H p ∧ 0 < t ∧ t < 1073741824 ∧
  ∀ r H', Src F H' p → Stp (S1 p) F H F H' → 0 ≤ r → r < t → Q (.int r) H'
def sp_law_one (K : PySem.W.Frag) (_ : Str → Option Value) : Sp := SpN 2 fun vs H Q _ => ∃ (F : Hp) (p q : Addr) (xs : List V), vs = [.ref p, .ref q] ∧ Src F H p ∧ SqL K F q xs ∧ 0 < xs.length ∧ xs.length < 1000 ∧
  ∀ r H', Src F H' p → Stp (S1 p) F H F H' → r ∈ xs → Q r H'
def sp_law_bits (_ : PySem.W.Frag) (_ : Str → Option Value) : Sp := SpN 2 fun vs H Q _ => ∃ (F : Hp) (p : Addr) (m : Int), vs = [.ref p, .int m] ∧ Src F H p ∧ 0 ≤ m ∧ m ≤ 1000 ∧
  ∀ q bs F' H', H q = none → Src F' H' p → Stp (S1 p) F H F' H' → F' q = some (.lst (bs.map V.int)) → Bits bs → (bs.length : Int) ≤ m → Q (.ref q) H'
def sp_law_are_bits (K : PySem.W.Frag) (_ : Str → Option Value) : Sp := SpN 1 fun vs H Q _ => ∃ (a : Addr) (bs : List Int), vs = [.ref a] ∧ H a = some (.lst (bs.map V.int)) ∧ Bits bs ∧ ∀ H', Same H H' → Q (.bl true) H'
def sp_law_hex (_ : PySem.W.Frag) (_ : Str → Option Value) : Sp := SpN 1 fun vs H Q _ => ∃ (a : Addr) (bs : List Int), vs = [.ref a] ∧ H a = some (.lst (bs.map V.int)) ∧ B01 bs ∧ bs.length ≤ 5000 ∧ ∀ H', Same H H' → Q (.str (hexS bs)) H'
def sp_law_back (_ : PySem.W.Frag) (_ : Str → Option Value) : Sp := SpN 1 fun vs H Q _ => ∃ (t : Str), vs = [.str t] ∧ t.length ≤ 1000 ∧
  (∀ ks, TellT t ks → ∀ p H', Same H H' → H p = none → H' p = some (.lst (ks.map V.int)) → Q (.ref p) H') ∧ ((¬ ∃ ks, TellT t ks) → ∀ H', Same H H' → Q .non H')
def sp_law_word (_ : PySem.W.Frag) (_ : Str → Option Value) : Sp := SpN 1 fun vs H Q _ => ∃ (t : Str), vs = [.str t] ∧ SgT t ∧ t.length ≤ 1000 ∧
  (∀ ks, TellT t ks → ∀ p q H', Same H H' → H p = none → H q = none → H' p = some (.tup [.str "told", .ref q]) → H' q = some (.lst (ks.map V.int)) → Q (.ref p) H') ∧
  ((¬ ∃ ks, TellT t ks) → ∀ p H', Same H H' → H p = none → H' p = some (.tup [.str "text", .int 0, .bl true, .bl false]) → Q (.ref p) H')
def sp_law_bent (_ : PySem.W.Frag) (_ : Str → Option Value) : Sp := SpN 2 fun vs H Q _ => ∃ (F : Hp) (p : Addr) (t : Str), vs = [.ref p, .str t] ∧ Src F H p ∧ SgT t ∧ t.length ≤ 300 ∧
  ∀ r F' H', Src F' H' p → Stp (S1 p) F H F' H' → SgT r → Str.length r ≤ 1000 → Q (.str r) H'
def sp_law_is_refused (K : PySem.W.Frag) (_ : Str → Option Value) : Sp := SpN 1 fun vs H Q _ => ∃ (a : Addr) (xs : List V), vs = [.ref a] ∧ SqL K H a xs ∧ (∀ x ∈ xs, Thg H x) ∧ xs.length ≤ 1000 ∧ xs.all goodV = false ∧ ∀ H', Same H H' → Q (.bl true) H'
def sp_lawK (K : PySem.W.Frag) : Sp := SpN 1 fun vs H Q _ => ∃ (a : Addr) (ns : List Int), vs = [.ref a] ∧ SqL K H a (ns.map V.int) ∧ ns.length ≤ 63 ∧ ∀ H', Q (.bl true) H'
def sp_law (K : PySem.W.Frag) (_ : Str → Option Value) : Sp := sp_lawK K
theorem law_start {K : PySem.W.Frag} {H : Hp} {a : Addr} {ns : List Int} {E : XK} (hl : ns.length ≤ 63) (hS : SqL K H a (ns.map V.int)) : sp_lawK K [.ref a] H (fun v _ => v = .bl true) E := ⟨rfl, a, ns, rfl, hS, hl, fun _ => rfl⟩
theorem Bits.b {bs : List Int} (h : Bits bs) : B01 bs := h
theorem Bits.app {a b : List Int} (ha : Bits a) (hb : Bits b) : Bits (a ++ b) := fun x hx => (List.mem_append.mp hx).elim (ha x) (hb x)
theorem at_nat' {xs : List V} {j : Nat} {v : V} (h : xs[j]? = some v) : atI xs (j : Int) = some v := atI_nat h
theorem Stp.weak {S : Addr → Prop} {F H F' H' : Hp} (a : Stp S F H F' H') : Stp S F H F H' := ⟨Same.refl F, a.ff.trans a.fh, fun _ _ _ => rfl, a.keep, a.dom⟩
theorem Stp.ofSame {S : Addr → Prop} {F H H' : Hp} (h : Same F H) (s : Same H H') : Stp S F H F H' := ⟨Same.refl F, h.trans s, fun _ _ _ => rfl, fun b o _ e => s b o e, fun b o e => ⟨o, s b o e⟩⟩
theorem ixN_at {n : Nat} {i : Int} (h0 : 0 ≤ i) (h1 : i.toNat < n) : ixN n i = some i.toNat := by
  unfold ixN
  rw [if_pos h0, if_pos (by omega)]
theorem good_bits {bs : List Int} (h : Bits bs) : (bs.map V.int).all goodV = true := by
  rw [List.all_eq_true]
  intro x hx
  obtain ⟨b, hb, rfl⟩ := List.mem_map.mp hx
  rcases h b hb with rfl | rfl <;> rfl
theorem thg_ints (H : Hp) (bs : List Int) : ∀ x ∈ bs.map V.int, Thg H x := fun x hx => by
  obtain ⟨b, _, rfl⟩ := List.mem_map.mp hx
  exact .int b
theorem same_none {H H' : Hp} {p : Addr} (s : Same H H') (h : H' p = none) : H p = none := by
  cases e : H p with
  | none => rfl
  | some o => rw [s _ _ e] at h; cases h
section
variable {P : Program} {w : World} {K : PySem.W.Frag} {mg : Str → Option Value} {base : Heap}
abbrev s_BadText___init__ : Stmt := inClass (topS 4) 0
theorem sc_BadText___init__ : NdefX.NScope ["self", "row", "__class__"] ["self", "row"] ["__class__"] (defScope s_BadText___init__) := NdefX.nscope_by (by decide +kernel)
def Ok_BadText___init__ (P : Program) (w : World) (K : PySem.W.Frag) (mg : Str → Option Value) (base : Heap) : Prop := ∃ fA fd, ExI P w K mg base (L2.CX P w) 1 fA fd (exA mg "BadText") ["self", "row"] (sp_BadText___init__ K mg)
theorem okx_BadText___init__ (Z : Zs K mg) {fA cc cda : Addr} {fd : FuncData} {file : Str} (F : FunS K "__init__" "BadText.__init__" s_BadText___init__ fA fd cc cda) (SC : SupC K (exA mg "BadText") cc cda file) (T : OexC K (exA mg "BadText")) (i : PySem.W.findIn K (.ref (exA mg "BadText")) "__init__" = some (some (.ref fA))) (ti : PySem.W.typeIn K (.ref fA) = some (.type "function")) (ef : P.main.file = file) (et : (P.main.scope.names.lookup ("super" : Str)).isSome = false)  : ExI P w K mg base (L2.CX P w) 1 fA fd (exA mg "BadText") ["self", "row"] (sp_BadText___init__ K mg) := by
  refine ⟨T, i, ti, okSup F sc_BadText___init__ (fun vs H Q E h => h.1) rfl SC T ef et rfl rfl rfl rfl Z.z_super (fun _ => rfl) (fun _ => rfl) (fun A outer s H vs Q E hr h => ?_), F.binds fun _ _ _ _ _ us hl => match us, hl with | [_, _], _ => rfl⟩
  have hu64 := hr.units
  obtain ⟨hlen, h⟩ := h
  refine exci_by (pa_cons (pe_op op_add_str pe_str (pe_callTy call_str_int (by rfl) Z.z_str (by decide +kernel) (pa_cons (pv 1) pa_nil))) pa_nil) (pss_one (ps_ost (pv 0) (pv 1) rfl)) ?_
  obtain ⟨a, x, rfl, ⟨i, rfl, hi, hl⟩, ea, q⟩ := h
  refine ⟨a, rfl, ea, fun R hR => ?_⟩
  refine ⟨.int i, rfl, i, rfl, hi, _, _, rfl, rfl, ?_, hR _ _ (by simp) ea (ost_fin T Z.f_BadText_row ea (fun Q h => ⟨_, rfl, h⟩) (fun Q h => ⟨_, rfl, h⟩) q)⟩
  refine Nat.le_trans (Nat.add_le_add (Nat.le_of_eq (by rfl : (Str.ofString "wrong row: ").length = 11)) hl) (by rw [sizeLine_eq]; decide)
abbrev s_is_bit : Stmt := topS 6
theorem sc_is_bit : FnScope ["thing"] ["thing"] (defScope s_is_bit) := ⟨rfl, rfl, rfl, by decide +kernel, rfl, by decide +kernel, by decide +kernel⟩
def Ok_is_bit (P : Program) (w : World) (K : PySem.W.Frag) (mg : Str → Option Value) (base : Heap) : Prop := ∃ fA fd, Fn P w K mg base (L2.CX P w) 1 "is_bit" s_is_bit fA fd ["thing"] (sp_is_bit K mg)
theorem okx_is_bit (Z : Zs K mg) {fA : Addr} {fd : FuncData} (F : Fun K "is_bit" "is_bit" s_is_bit fA fd) (m : mg "is_bit" = some (.ref fA))  : Fn P w K mg base (L2.CX P w) 1 "is_bit" s_is_bit fA fd ["thing"] (sp_is_bit K mg) := by
  refine ⟨F.okX sc_is_bit (fun vs H Q E h => h.1) (fun cdv A outer s H vs Q E hr h => ?_), m, F.kp, F.binds fun _ _ _ _ _ _ us hl => match us, hl with | [_], _ => rfl, F⟩
  have hu64 := hr.units
  obtain ⟨hlen, h⟩ := h
  refine ⟨_, (pss_one (ps_ret (pe_and (pe_callB (c_isi K rfl) (by rfl) Z.z_isinstance (by decide +kernel) (pa_cons (pv 0) (pa_cons (pe_bltn (v := .ty "int") (by rfl) Z.z_int (by decide +kernel) rfl) pa_nil))) (pe_and (pe_not (pe_callB (c_isi K rfl) (by rfl) Z.z_isinstance (by decide +kernel) (pa_cons (pv 0) (pa_cons (pe_bltn (v := .ty "bool") (by rfl) Z.z_bool (by decide +kernel) rfl) pa_nil)))) (pe_one (pe_chain op_le op_le pe_int (pv 0) pe_int)))))), ?_⟩
  obtain ⟨x, rfl, ht, q⟩ := h
  cases ht with
  | int b =>
    walk_at "r"
    refine s_isi (b := true) (.base (.int b)) (by decide +kernel) ?_
    walk_at "r"
    refine s_isi (b := false) (.base (.int b)) (by decide +kernel) ?_
    walk_at "r"
    refine ifd (fun h => ?_) (fun h => ?_)
    · walk_at "r"
      have e : goodV (.int b) = decide (b ≤ 1) := by unfold goodV; simp [h]
      rw [e] at q
      exact q
    · have e : goodV (.int b) = false := by unfold goodV; simp [h]
      rw [e] at q
      exact q
  | non =>
    walk_at "r"
    refine s_isi (b := false) (.base .non) (by decide +kernel) ?_
    walk_at "r"
    exact q
  | str s =>
    walk_at "r"
    refine s_isi (b := false) (.base (.str s)) (by decide +kernel) ?_
    walk_at "r"
    exact q
  | lst ha =>
    walk_at "r"
    refine s_isi (b := false) (.base (.lst ha)) (by decide +kernel) ?_
    walk_at "r"
    exact q
abbrev s_check_bits : Stmt := topS 7
theorem sc_check_bits : FnScope ["bits", "bit"] ["bits"] (defScope s_check_bits) := ⟨rfl, rfl, rfl, by decide +kernel, rfl, by decide +kernel, by decide +kernel⟩
def Ok_check_bits (P : Program) (w : World) (K : PySem.W.Frag) (mg : Str → Option Value) (base : Heap) : Prop := ∃ fA fd, Fn P w K mg base (L2.CX P w) 2 "check_bits" s_check_bits fA fd ["bits"] (sp_check_bits K mg)
theorem okx_check_bits (Z : Zs K mg) {fA : Addr} {fd : FuncData} (F : Fun K "check_bits" "check_bits" s_check_bits fA fd) (m : mg "check_bits" = some (.ref fA)) (C_is_bit : Ok_is_bit P w K mg base) : Fn P w K mg base (L2.CX P w) 2 "check_bits" s_check_bits fA fd ["bits"] (sp_check_bits K mg) := by
  obtain ⟨_, _, C_is_bit⟩ := C_is_bit
  refine ⟨F.okX sc_check_bits (fun vs H Q E h => h.1) (fun cdv A outer s H vs Q E hr h => ?_), m, F.kp, F.binds fun _ _ _ _ _ _ us hl => match us, hl with | [_], _ => rfl, F⟩
  have hu64 := hr.units
  obtain ⟨hlen, h⟩ := h
  refine ⟨_, (pss_one (ps_for (passes_of rfl) rfl (pi_list (pv 0)) (pg_name (i := 1) sc_check_bits.nd rfl (Or.inl rfl))
      (pss_one (ps_if (pt_not (pt_val (pe_call C_is_bit.G (hr.mono (by decide)) rfl C_is_bit.m C_is_bit.kp C_is_bit.b .nil passL (pa_cons (pv 1) pa_nil))))
      (pss_one (ps_raise rfl (takes_of rfl rfl rfl rfl) (pmk_own0 PySem.F.excBase_ValueError Z.x_BadBits.x Z.x_BadBits.g Z.x_BadBits.k (raises_own Z.x_BadBits.b Z.x_BadBits.t) rfl)))
      pss_nil)))), ?_⟩
  obtain ⟨a, xs, rfl, hS, ht, hh⟩ := h
  walk_at "r"
  refine ⟨_, rfl, ⟨_, hS⟩, ?_⟩
  refine forL (xs := xs) (fun i σ H' => ∃ v, σ = [some (.ref a), v] ∧ H = H' ∧ ∀ x ∈ xs.take i, goodV x = true) ⟨_, rfl, rfl, by simp⟩ (fun i σ H' _ ⟨_, _, e, _⟩ => e ▸ hS) ?_ ?_
  · rintro i x σ H' hx ⟨v, rfl, rfl, hg⟩
    cases e : goodV x with
    | true =>
      walk_at "r"
      refine ⟨rfl, x, rfl, ht x (List.mem_of_getElem? hx), ?_⟩
      rw [e]
      walk_at "r"
      refine ⟨_, rfl, rfl, fun y hy => ?_⟩
      obtain ⟨hi, hx'⟩ := List.getElem?_eq_some_iff.mp hx
      rw [List.take_succ_eq_append_getElem hi, List.mem_append] at hy
      rcases hy with hy | hy
      · exact hg y hy
      · rw [hx', List.mem_singleton] at hy; rw [hy, e]
    | false =>
      walk_at "r"
      refine ⟨rfl, x, rfl, ht x (List.mem_of_getElem? hx), ?_⟩
      rw [e]
      walk_at "r"
      rcases hh with ⟨z, _⟩ | ⟨_, q⟩
      · rw [List.all_eq_true] at z
        rw [z x (List.mem_of_getElem? hx)] at e
        cases e
      · exact q
  · rintro σ H' ⟨v, rfl, rfl, hg⟩
    rw [List.take_length, ← List.all_eq_true] at hg
    rcases hh with ⟨_, q⟩ | ⟨z, _⟩
    · walk_at "r"
      exact q
    · rw [hg] at z; cases z
abbrev s_number_of : Stmt := topS 8
theorem sc_number_of : FnScope ["bits", "found", "bit"] ["bits"] (defScope s_number_of) := ⟨rfl, rfl, rfl, by decide +kernel, rfl, by decide +kernel, by decide +kernel⟩
def Ok_number_of (P : Program) (w : World) (K : PySem.W.Frag) (mg : Str → Option Value) (base : Heap) : Prop := ∃ fA fd, Fn P w K mg base (L2.CX P w) 1 "number_of" s_number_of fA fd ["bits"] (sp_number_of K mg)
theorem okx_number_of (Z : Zs K mg) {fA : Addr} {fd : FuncData} (F : Fun K "number_of" "number_of" s_number_of fA fd) (m : mg "number_of" = some (.ref fA))  : Fn P w K mg base (L2.CX P w) 1 "number_of" s_number_of fA fd ["bits"] (sp_number_of K mg) := by
  refine ⟨F.okX sc_number_of (fun vs H Q E h => h.1) (fun cdv A outer s H vs Q E hr h => ?_), m, F.kp, F.binds fun _ _ _ _ _ _ us hl => match us, hl with | [_], _ => rfl, F⟩
  have hu64 := hr.units
  obtain ⟨hlen, h⟩ := h
  refine ⟨_, (pss_cons (ps_set (i := 1) sc_number_of.nd rfl (Or.inl rfl) pe_int)
    (pss_cons (ps_for (passes_of rfl) rfl (pi_list (pv 0)) (pg_name (i := 2) sc_number_of.nd rfl (Or.inl rfl))
      (pss_one (ps_set (i := 1) sc_number_of.nd rfl (Or.inl rfl) (pe_op op_add (pe_op op_mul pe_int (pv 1)) (pv 2)))))
    (pss_one (ps_ret (pv 1))))), ?_⟩
  obtain ⟨a, bs, rfl, hS, q⟩ := h
  walk_at "r"
  refine ⟨_, rfl, ⟨_, hS⟩, ?_⟩
  refine forL (xs := bs.map V.int) (fun i σ H' => ∃ v, σ = [some (.ref a), some (.int (numL (bs.take i))), v] ∧ H = H') ⟨_, rfl, rfl⟩ (fun i σ H' _ ⟨_, _, e⟩ => e ▸ hS) ?_ ?_
  · rintro i x σ H' hx ⟨v, rfl, rfl⟩
    rw [List.getElem?_map] at hx
    cases z : bs[i]? with
    | none => rw [z] at hx; cases hx
    | some b =>
      rw [z] at hx
      cases hx
      have hi : i < bs.length := (List.getElem?_eq_some_iff.mp z).1
      have et : bs.take (i + 1) = bs.take i ++ [b] := by
        rw [List.take_succ_eq_append_getElem hi]
        rw [List.getElem?_eq_getElem hi] at z
        rw [Option.some.inj z]
      have hv : 2 * numL (bs.take i) + b = numL (bs.take (i + 1)) := by rw [et, numL_snoc]
      walk_at "r"
      rw [hv]
      exact ⟨_, rfl, rfl⟩
  · rintro σ H' ⟨v, rfl, rfl⟩
    rw [List.length_map, List.take_length]
    walk_at "r"
    exact q
abbrev s_fixed : Stmt := topS 9
theorem sc_fixed : FnScope ["n", "w", "digit"] ["n", "w"] (defScope s_fixed) := ⟨rfl, rfl, rfl, by decide +kernel, rfl, by decide +kernel, by decide +kernel⟩
def Ok_fixed (P : Program) (w : World) (K : PySem.W.Frag) (mg : Str → Option Value) (base : Heap) : Prop := ∃ fA fd, Fn P w K mg base (L2.CX P w) 1 "fixed" s_fixed fA fd ["n", "w"] (sp_fixed K mg)
theorem okx_fixed (Z : Zs K mg) {fA : Addr} {fd : FuncData} (F : Fun K "fixed" "fixed" s_fixed fA fd) (m : mg "fixed" = some (.ref fA))  : Fn P w K mg base (L2.CX P w) 1 "fixed" s_fixed fA fd ["n", "w"] (sp_fixed K mg) := by
  refine ⟨F.okX sc_fixed (fun vs H Q E h => h.1) (fun cdv A outer s H vs Q E hr h => ?_), m, F.kp, F.binds fun _ _ _ _ _ _ us hl => match us, hl with | [_, _], _ => rfl, F⟩
  have hu64 := hr.units
  obtain ⟨hlen, h⟩ := h
  refine ⟨_, (pss_cons (ps_if (PW.pt (pw_or (pt_cmpR op_lt (pv 0) pe_int (nomark _)) (pw_or (pt_cmpR op_lt (pv 1) pe_int (nomark _)) (pw_or1 (pt_cmpR op_gt (pe_bits (pv 0)) (pv 1) (nomark _))))))
      (pss_one (ps_raise rfl (takes_of rfl rfl rfl rfl) (pmk_own0 PySem.F.excBase_ValueError Z.x_Outside.x Z.x_Outside.g Z.x_Outside.k (raises_own Z.x_Outside.b Z.x_Outside.t) rfl)))
      pss_nil)
    (pss_cons (ps_if (pt_cmpR op_eq (pv 1) pe_int (nomark _))
      (pss_one (ps_ret (pe_lst pa_nil)))
      pss_nil)
    (pss_one (ps_ret (pe_lc (own := [("digit", 2)]) (g := gName 2) (tt := tYes) (by rfl) sc_fixed.nd (pi_str (pe_bm PySem.F.plainAttrs_str PySem.F.slot_str_zfill PySem.F.type_str_zfill mt_zfill (pe_joined1 (pe_fmtB (pv 0))) (pa_cons (pv 1) pa_nil))) (blkOk_by (own := [("digit", 2)]) (N := ["n", "w", "digit"]) (sc := defScope s_fixed) (by decide +kernel)) (fun _ _ _ _ _ => (pg_name (i := 2) sc_fixed.nd rfl (Or.inl rfl))) (fun _ _ _ _ _ => pts_nil) (fun _ _ _ _ _ => (pe_callTy call_int_str (by rfl) Z.z_int (by decide +kernel) (pa_cons (pv 2) pa_nil)))))))), ?_⟩
  obtain ⟨n, w, rfl, hn, hw, hw2, hlt, k⟩ := h
  walk_at "r"
  refine ifd (fun h => absurd h (by omega)) (fun _ => ?_)
  walk_at "r"
  refine ifd (fun h => absurd h (by omega)) (fun _ => ?_)
  walk_at "r"
  have hb := (intBits_le (w := w.toNat) hn).mpr hlt
  refine ifd (fun h => absurd h (by omega)) (fun _ => ?_)
  walk_at "r"
  refine ifd (fun h => ?_) (fun h => ?_)
  · walk_at "r"
    subst h
    exact ⟨sz (by simp), fun p hp => k p _ (Stp.new (S := S0) (Same.refl H) hp).same hp upd_same⟩
  · walk_at "r"
    obtain ⟨w', rfl⟩ : ∃ w' : Nat, w = ((w' + 1 : Nat) : Int) := ⟨w.toNat - 1, by omega⟩
    rw [Int.toNat_natCast] at hlt k
    have en : n.natAbs = n.toNat := by omega
    refine ⟨hn, Nat.le_trans (bits_le (n := n.natAbs) (by rw [en]; exact hlt)) (by omega), ?_⟩
    refine ⟨rfl, ?_⟩
    walk_at "r"
    refine ⟨_, _, rfl, rfl, pad_ok (by omega), ?_⟩
    refine ⟨_, rfl, ?_⟩
    have hz := zfill_bin hlt
    rw [show n.toNat = n.natAbs by omega] at hz
    have hs : (Txt.zfill (binText n.natAbs) ((w' + 1 : Nat) : Int)).cps.size = w' + 1 := by
      rw [← Array.length_toList, hz, List.length_map, fixL_len]
    refine lcW walk_str S0 (Same.refl H) (fun _ z => z.elim) (fun _ _ _ => trivial) (fun i acc F1 H1 => acc = (bitsV (w' + 1) n.toNat).take i) (fun _ _ _ _ _ _ _ _ _ r => r) rfl ?_ ?_
    · rintro i x acc d F1 H1 H2 hi ⟨rfl, c, hc, rfl⟩ hd nS st f0 e hl r
      walk_at "r"
      have hc2 : ((fixL (w' + 1) n.natAbs).map code)[i]? = some c := by rw [← hz]; simpa using hc
      rw [List.getElem?_map] at hc2
      cases hb2 : (fixL (w' + 1) n.natAbs)[i]? with
      | none => rw [hb2] at hc2; cases hc2
      | some b =>
        rw [hb2] at hc2
        have ec : code b = c := Option.some.inj hc2
        subst ec
        refine ⟨_, _, rfl, text_bit (fixL_bit _ _ b (List.mem_of_getElem? hb2)), (by show 1 ≤ 640; decide), ?_⟩
        refine lc_end hd nS st f0 e hl (by rw [hs] at hi; omega) (.rfl' st.fh) ?_
        have hi2 : i < (bitsV (w' + 1) n.toNat).length := by simp [bitsV, fixL_len]; rw [hs] at hi; exact hi
        rw [r, List.take_succ_eq_append_getElem hi2]
        congr 2
        have q2 : (bitsV (w' + 1) n.toNat)[i]? = some (V.int b) := by rw [bitsV, List.getElem?_map, ← en, hb2]; rfl
        rw [List.getElem?_eq_getElem hi2] at q2
        exact (Option.some.inj q2).symm
    · intro d acc F0 F1 H1 st hd f0 ef st1 hl r
      refine k d H1 st.same hd ?_
      rw [ef] at st1
      rw [st1.fh _ _ upd_same, r, hs, List.take_of_length_le (by simp [bitsV, fixL_len])]
abbrev s_hex_of : Stmt := topS 13
theorem sc_hex_of : FnScope ["bits", "filling", "whole", "digits", "at"] ["bits"] (defScope s_hex_of) := ⟨rfl, rfl, rfl, by decide +kernel, rfl, by decide +kernel, by decide +kernel⟩
def Ok_hex_of (P : Program) (w : World) (K : PySem.W.Frag) (mg : Str → Option Value) (base : Heap) : Prop := ∃ fA fd, Fn P w K mg base (L2.CX P w) 3 "hex_of" s_hex_of fA fd ["bits"] (sp_hex_of K mg)
theorem okx_hex_of (Z : Zs K mg) {fA : Addr} {fd : FuncData} (F : Fun K "hex_of" "hex_of" s_hex_of fA fd) (m : mg "hex_of" = some (.ref fA)) (C_number_of : Ok_number_of P w K mg base) (C_check_bits : Ok_check_bits P w K mg base) : Fn P w K mg base (L2.CX P w) 3 "hex_of" s_hex_of fA fd ["bits"] (sp_hex_of K mg) := by
  obtain ⟨_, _, C_number_of⟩ := C_number_of
  obtain ⟨_, _, C_check_bits⟩ := C_check_bits
  refine ⟨F.okX sc_hex_of (fun vs H Q E h => h.1) (fun cdv A outer s H vs Q E hr h => ?_), m, F.kp, F.binds fun _ _ _ _ _ _ us hl => match us, hl with | [_], _ => rfl, F⟩
  have hu64 := hr.units
  obtain ⟨hlen, h⟩ := h
  refine ⟨_, (pss_cons (ps_expr (pe_call C_check_bits.G (hr.mono (by decide)) rfl C_check_bits.m C_check_bits.kp C_check_bits.b .nil (passes_call (takes_of rfl rfl rfl rfl) (fun _ _ _ _ h => h)) (pa_cons (pv 0) pa_nil)))
    (pss_cons (ps_set (i := 1) sc_hex_of.nd rfl (Or.inl rfl) (pe_op op_mod (pe_un un_neg (pe_callB (c_len K rfl) (by rfl) Z.z_len (by decide +kernel) (pa_cons (pv 0) pa_nil))) pe_int))
    (pss_cons (ps_set (i := 2) sc_hex_of.nd rfl (Or.inr rfl) (pe_op op_cat (pe_callTy call_list_of (by rfl) Z.z_list (by decide +kernel) (pa_cons (pv 0) pa_nil)) (pe_op op_rep (pe_lst (pa_cons pe_int pa_nil)) (pv 1))))
    (pss_cons (ps_setLc (i := 3) (own := [("at", 4)]) (g := gName 4) (tt := tYes) (by rfl) sc_hex_of.nd rfl rfl (sw_true rfl rfl rfl (by decide +kernel)) (pi_range3 rfl Z.z_range (pa_cons pe_int (pa_cons (pe_callB (c_len K rfl) (by rfl) Z.z_len (by decide +kernel) (pa_cons (pv 2) pa_nil)) (pa_cons pe_int pa_nil)))) (blkOk_by (own := [("at", 4)]) (N := ["bits", "filling", "whole", "digits", "at"]) (sc := defScope s_hex_of) (by decide +kernel)) (fun _ _ _ _ _ => (pg_name (i := 4) sc_hex_of.nd rfl (Or.inl rfl))) (fun _ _ _ _ _ => pts_nil) (fun _ _ _ _ _ => (pe_ix ix_str (pe_glob (v := .str "0123456789abcdef") rfl Z.c_DIGITS ⟨_, rfl⟩) (pe_call C_number_of.G (hr.mono (by decide)) rfl C_number_of.m C_number_of.kp C_number_of.b .nil passL (pa_cons (pe_slice (l_list K rfl) (pv 2) (po_some (pv 4)) (po_some (pe_op op_add (pv 4) pe_int))) pa_nil)) (fun _ _ => rfl))))
    (pss_one (ps_ret (pe_op op_add_str (pe_op op_add_str (pe_join pe_str (pv 3)) pe_str) (pe_callTy call_str_int (by rfl) Z.z_str (by decide +kernel) (pa_cons (pv 1) pa_nil))))))))), ?_⟩
  obtain ⟨a, xs, rfl, hS, ht, hl, q⟩ := h
  walk_at "r"
  rcases q with ⟨bs, rfl, hb, k⟩ | ⟨hg, hE⟩
  rotate_left
  · exact ⟨rfl, a, xs, rfl, hS, ht, .inr ⟨hg, hE⟩⟩
  refine ⟨rfl, a, _, rfl, hS, ht, .inl ⟨good_bits hb, ?_⟩⟩
  rw [List.length_map] at hl
  walk_at "r"
  refine ⟨a, _, rfl, .inl hS, fun l hl0 => ?_⟩
  walk_at "r"
  refine ⟨sz (by simp), fun p hp => ?_⟩
  walk_at "r"
  have ef : (-((bs.map V.int).length : Int) % 4 : Int) = ((fil bs.length : Nat) : Int) := by
    rw [List.length_map]; unfold fil; omega
  have hf := fil_lt bs.length
  rw [ef]
  refine s_rep upd_same (by omega) (by omega) fun p2 hp2 => ?_
  have hl1 : p ≠ l := fun e => by rw [e, upd_same] at hp; cases hp
  have hl2 : p2 ≠ l := fun e => by rw [e, upd_ne hl1.symm, upd_same] at hp2; cases hp2
  refine ⟨l, p2, _, _, rfl, rfl, by rw [upd_ne hl2.symm, upd_ne hl1.symm, upd_same], upd_same, sz (by rw [List.length_map, List.length_replicate]; omega), fun p3 hp3 => ?_⟩
  have st3 := (((Stp.new (S := S0) (o := .lst (bs.map V.int)) (Same.refl H) hl0).same).trans ((Stp.new (S := S0) (o := .lst [.int 0]) (Same.refl _) hp).same)).trans (((Stp.new (S := S0) (o := .lst (List.replicate ((fil bs.length : Nat) : Int).toNat (.int 0))) (Same.refl _) hp2).same).trans (Stp.new (S := S0) (o := .lst (bs.map V.int ++ List.replicate ((fil bs.length : Nat) : Int).toNat (.int 0))) (Same.refl _) hp3).same)
  have ew : bs.map V.int ++ List.replicate ((fil bs.length : Nat) : Int).toNat (.int 0) = (whl bs).map V.int := by
    unfold whl; rw [List.map_append, List.map_replicate, Int.toNat_natCast]
  revert st3
  rw [ew]
  generalize e3 : upd (upd (upd (upd H l _) p _) p2 _) p3 (HO.lst ((whl bs).map V.int)) = H3
  have h3 : H3 p3 = some (.lst ((whl bs).map V.int)) := by rw [← e3, upd_same]
  intro st3
  walk_at "r"
  have hwl := whl_len bs
  have hwl2 := whl_len2 bs
  refine ⟨_, _, _, (grp (whl bs)).length, rfl, ?_, ?_⟩
  · have := rgc_up (L := (((whl bs).map V.int).length : Int)) (k := 4) (by omega) (by rw [List.length_map]; omega) (by decide) (by decide)
    rw [grp_len]
    have e : ((((whl bs).map V.int).length : Int) + 4 - 1) / 4 = (((whl bs).length / 4 : Nat) : Int) := by rw [List.length_map]; omega
    rw [e, Int.toNat_natCast] at this
    exact this
  refine lcW walk_rangeC S0 (Same.refl H3) (fun _ z => z.elim) (fun _ _ _ => trivial) (fun i acc F1 H1 => acc = ((grp (whl bs)).take i).map fun d => V.str ⟨#[hxc d]⟩) (fun _ _ _ _ _ _ _ _ _ r => r) rfl ?_ ?_
  · rintro i x acc d F1 H1 H2 hi ⟨rfl, rfl⟩ hd nS st f0 e hl rr
    rw [grp_len] at hi
    obtain ⟨a1, a2, a3, a4, h1, h2, h3', h4, h5⟩ := grp_get i (whl bs) (by omega)
    have ei : (0 : Int) + (i : Int) * 4 = ((4 * i : Nat) : Int) := by omega
    have ej : ((4 * i : Nat) : Int) + 4 = ((4 * i + 4 : Nat) : Int) := by omega
    dsimp only; rw [ei]
    walk_at "r"
    rw [ej]
    refine s_slL (((Same.refl H3).trans st.same).seq (.of h3)) fun p hp => ?_
    have b1 := whl_b hb a1 (List.mem_of_getElem? h1)
    have b2 := whl_b hb a2 (List.mem_of_getElem? h2)
    have b3 := whl_b hb a3 (List.mem_of_getElem? h3')
    have b4 := whl_b hb a4 (List.mem_of_getElem? h4)
    have ec : cutV ((whl bs).map V.int) (some ((4 * i : Nat) : Int)) (some ((4 * i + 4 : Nat) : Int)) = [a1, a2, a3, a4].map V.int := by
      rw [cutV_nat, show 4 * i + 4 - 4 * i = 4 by omega, ← List.map_drop, ← List.map_take, take4 h1 h2 h3' h4]
    rw [ec]
    walk_at "r"
    refine ⟨rfl, p, [a1, a2, a3, a4], rfl, .of upd_same, ?_⟩
    have en : numL [a1, a2, a3, a4] = (((8 * a1 + 4 * a2 + 2 * a3 + a4).toNat : Nat) : Int) := by
      unfold numL
      simp only [List.foldl]
      omega
    have h16 : (8 * a1 + 4 * a2 + 2 * a3 + a4).toNat < 16 := by omega
    rw [en]
    generalize (8 * a1 + 4 * a2 + 2 * a3 + a4).toNat = n at h5 h16
    refine ⟨_, _, hxc n, rfl, rfl, by rw [sizeLine_eq]; decide, atI_nat (dg_at _ h16), ?_⟩
    have s4 := Stp.new (S := S0) (o := .lst ([a1, a2, a3, a4].map V.int)) st.fh hp
    refine lc_end hd nS st f0 e hl (by omega) s4 ?_
    rw [List.take_succ, h5, rr]
    simp
  · intro d acc F0 F1 H1 st hd f0 ef2 st1 hl rr
    rw [List.take_length] at rr
    subst rr
    walk_at "r"
    refine ⟨⟨_, rfl⟩, _, rfl, _, d, (grp (whl bs)).map (fun n => ⟨#[hxc n]⟩), rfl, rfl, .inl (.of ?_), ?_, ?_⟩
    · rw [ef2] at st1
      rw [st1.fh _ _ upd_same, List.map_map]; rfl
    · rw [sum1, grp_len]
      show _ + (List.length _) * 0 ≤ _
      omega
    rw [join_dg]
    walk_at "r"
    refine ⟨_, _, rfl, rfl, ?_, ?_⟩
    · refine sz ?_
      show ((grp (whl bs)).map hxc).toArray.size + 1 ≤ _
      rw [List.size_toArray, List.length_map, grp_len]; omega
    walk_at "r"
    refine ⟨_, rfl, Nat.lt_of_le_of_lt (Nat.log2_le_self _) (by omega), ?_⟩
    rw [str_fl _ hf]
    refine ⟨_, _, rfl, rfl, ?_, ?_⟩
    · refine sz ?_
      show (((grp (whl bs)).map hxc).toArray ++ #[46]).size + 1 ≤ _
      simp only [Array.size_append, List.size_toArray, List.length_map, grp_len]; simp; omega
    have e := k H1 (st3.trans st.same)
    have e2 : hexS bs = (⟨((grp (whl bs)).map hxc).toArray⟩ : Str) ++ ("." : Str) ++ (⟨#[48 + fil bs.length]⟩ : Str) := by
      show (⟨((grp (whl bs)).map hxc ++ [46, 48 + fil bs.length]).toArray⟩ : Str) = ⟨((grp (whl bs)).map hxc).toArray ++ #[46] ++ #[48 + fil bs.length]⟩
      congr 1
      apply Array.ext'
      simp
    rw [e2] at e
    exact e
abbrev s_bits_of : Stmt := topS 14
theorem sc_bits_of : FnScope ["text", "digits", "point", "last", "filling", "found", "sign", "kept"] ["text"] (defScope s_bits_of) := ⟨rfl, rfl, rfl, by decide +kernel, rfl, by decide +kernel, by decide +kernel⟩
def Ok_bits_of (P : Program) (w : World) (K : PySem.W.Frag) (mg : Str → Option Value) (base : Heap) : Prop := ∃ fA fd, Fn P w K mg base (L2.CX P w) 3 "bits_of" s_bits_of fA fd ["text"] (sp_bits_of K mg)
theorem okx_bits_of (Z : Zs K mg) {fA : Addr} {fd : FuncData} (F : Fun K "bits_of" "bits_of" s_bits_of fA fd) (m : mg "bits_of" = some (.ref fA)) (C_BadText___init__ : Ok_BadText___init__ P w K mg base) (C_fixed : Ok_fixed P w K mg base) : Fn P w K mg base (L2.CX P w) 3 "bits_of" s_bits_of fA fd ["text"] (sp_bits_of K mg) := by
  obtain ⟨_, _, C_BadText___init__⟩ := C_BadText___init__
  obtain ⟨_, _, C_fixed⟩ := C_fixed
  refine ⟨F.okX sc_bits_of (fun vs H Q E h => h.1) (fun cdv A outer s H vs Q E hr h => ?_), m, F.kp, F.binds fun _ _ _ _ _ _ us hl => match us, hl with | [_], _ => rfl, F⟩
  have hu64 := hr.units
  obtain ⟨hlen, h⟩ := h
  refine ⟨_, (pss_cons (ps_asg (pe_partition (pv 0) pe_str) (pg_tup rfl (pgs_cons (pg_name (i := 1) sc_bits_of.nd rfl (Or.inl rfl)) (pgs_cons (pg_name (i := 2) sc_bits_of.nd rfl (Or.inl rfl)) (pgs_cons (pg_name (i := 3) sc_bits_of.nd rfl (Or.inl rfl)) pgs_nil)))))
    (pss_cons (ps_if (PW.pt (pw_or (pt_cmpR op_eq (pv 2) pe_str (nomark _)) (pw_or (pt_cmpR (o_notIn K rfl) (pv 3) (pe_glob (v := .ref (exA mg "FILLINGS")) rfl Z.t_FILLINGS.1 rfl) rfl) (pw_or1 (pt_cmpR (o_neD K rfl hu64) (pe_lc (own := [("sign", 6)]) (g := gName 6) (tt := _) (by rfl) sc_bits_of.nd (pi_str (pv 1)) (blkOk_by (own := [("sign", 6)]) (N := ["text", "digits", "point", "last", "filling", "found", "sign", "kept"]) (sc := defScope s_bits_of) (by decide +kernel)) (fun _ _ _ _ _ => (pg_name (i := 6) sc_bits_of.nd rfl (Or.inl rfl))) (fun _ _ _ _ _ => pts_one (pt_cmpR op_notIn_sign (pv 6) (pe_glob (v := .str "0123456789abcdef") rfl Z.c_DIGITS ⟨_, rfl⟩) rfl)) (fun _ _ _ _ _ => (pv 6))) (pe_lst pa_nil) (nomark _))))))
      (pss_one (ps_raise rfl (takes_of rfl rfl rfl rfl) (pmk_oex C_BadText___init__.T C_BadText___init__.i C_BadText___init__.t C_BadText___init__.F (hr.mono (by decide)) C_BadText___init__.b .nil passN rfl Z.x_BadText.g (pa_cons pe_int pa_nil))))
      pss_nil)
    (pss_cons (ps_par (i := 4) (j := 5) (by rfl) sc_bits_of.nd rfl rfl (by decide) rfl rfl (pa_cons (pe_callTy call_int_str (by rfl) Z.z_int (by decide +kernel) (pa_cons (pv 3) pa_nil)) (pa_cons (pe_lst pa_nil) pa_nil)) (by rfl))
    (pss_cons (ps_for (passes_of rfl) rfl (pi_str (pv 1)) (pg_name (i := 6) sc_bits_of.nd rfl (Or.inl rfl))
      (pss_one (ps_set (i := 5) sc_bits_of.nd rfl (Or.inl rfl) (pe_op op_cat (pv 5) (pe_call C_fixed.G (hr.mono (by decide)) rfl C_fixed.m C_fixed.kp C_fixed.b .nil passL (pa_cons (pe_bm PySem.F.plainAttrs_str PySem.F.slot_str_index PySem.F.type_str_index mt_sindex (pe_glob (v := .str "0123456789abcdef") rfl Z.c_DIGITS ⟨_, rfl⟩) (pa_cons (pv 6) pa_nil)) (pa_cons pe_int pa_nil)))))))
    (pss_cons (ps_set (i := 7) sc_bits_of.nd rfl (Or.inl rfl) (pe_op op_sub (pe_callB (c_len K rfl) (by rfl) Z.z_len (by decide +kernel) (pa_cons (pv 5) pa_nil)) (pv 4)))
    (pss_cons (ps_if (PW.pt (pw_or (pt_cmpR op_lt (pv 7) pe_int (nomark _)) (pw_or1 (pt_cmpR (o_in K rfl) pe_int (pe_slice (l_list K rfl) (pv 5) (po_some (pv 7)) po_none) rfl))))
      (pss_one (ps_raise rfl (takes_of rfl rfl rfl rfl) (pmk_oex C_BadText___init__.T C_BadText___init__.i C_BadText___init__.t C_BadText___init__.F (hr.mono (by decide)) C_BadText___init__.b .nil passN rfl Z.x_BadText.g (pa_cons pe_int pa_nil))))
      pss_nil)
    (pss_one (ps_ret (pe_slice (l_list K rfl) (pv 5) po_none (po_some (pv 7))))))))))), ?_⟩
  obtain ⟨t, rfl, hg, hl, q1, q2⟩ := h
  walk_at "r"
  refine ⟨⟨_, rfl⟩, ?_⟩
  walk_at "r"
  refine ⟨_, _, rfl, rfl, by decide +kernel, sz (by omega), fun p hp => ?_⟩
  have st0 := fun o => (Stp.new (S := S0) (o := o) (Same.refl H) hp).same
  refine s_gtup (.of upd_same) rfl ?_
  have rais : ∀ (h : ¬ ∃ ks, TellT t ks) (σ : L2.St) (H1 : Hp), Same H H1 → tMkO (exA mg "BadText") (sp_BadText___init__ K mg) [] (tCons (tC (V.int 0)) tNil) σ H1 fun cls d H' => E cls d H' := fun h σ H1 s1 => by
    refine s_mkO ?_
    walk_at "r"
    refine mkO_fin ⟨0, rfl, by decide, by decide +kernel⟩ fun d hd => ?_
    exact q2 h d _ (s1.trans (Stp.new (S := S0) (Same.refl _) hd).same) (same_none s1 hd) upd_same
  by_cases hm : 46 ∈ t.cps.toList
  rotate_left
  · have hno : ¬ ∃ ks, TellT t ks := fun ⟨ks, h⟩ => hm (tell_pt h).1
    rw [TL.partition_none (y := (Str.ofString ".")) (s := 46) (S := []) rfl hm]
    walk_at "r"
    refine ifd (fun _ => ?_) (fun h => absurd rfl h)
    exact rais hno _ _ (st0 _)
  obtain ⟨a, b, ha, eL⟩ := cut_pt hm
  have et : t = (⟨a.toArray⟩ : Str) ++ (Str.ofString ".") ++ (⟨b.toArray⟩ : Str) := by
    obtain ⟨c⟩ := t
    show (⟨c⟩ : Str) = ⟨a.toArray ++ #[46] ++ b.toArray⟩
    congr 1
    apply Array.ext'
    dsimp only at eL
    rw [eL]; simp
  have tl := fun ks => tell_at (ks := ks) eL ha
  have hla : a.length + b.length + 1 = t.length := by
    have := congrArg List.length eL
    rw [Array.length_toList, List.length_append, List.length_cons] at this
    show _ = t.cps.size
    omega
  have ep : Txt.partition t (Str.ofString ".") = (⟨a.toArray⟩, Str.ofString ".", ⟨b.toArray⟩) := by
    rw [et]
    exact TL.partition_app (y := (Str.ofString ".")) (s := 46) (S := []) rfl (by simpa using ha)
  rw [ep]
  walk_at "r"
  refine ifd (fun h => absurd (show Str.ofString "." = Str.ofString "" from h) (by decide +kernel)) (fun _ => ?_)
  walk_at "r"
  refine ⟨_, [.str "0", .str "1", .str "2", .str "3"], rfl, .inr (Z.t_FILLINGS.2 _), rfl, rfl, ?_⟩
  rw [inFl]
  simp only [if_true]
  walk_at "r"
  refine ifn (fun hf => ?_) (fun hf => ?_)
  rotate_left
  · refine rais (fun ⟨ks, h⟩ => ?_) _ _ (st0 _)
    obtain ⟨ds, f, _, f4, _, eb, _⟩ := (tl ks).mp h
    exact hf ⟨f, f4, eb⟩
  obtain ⟨f, f4, rfl⟩ := hf
  walk_at "r"
  refine ⟨_, rfl, ?_⟩
  have hsg : ∀ x ∈ (a.filter fun c => !decide (c ∈ ("0123456789abcdef" : Str).cps.toList)).map (fun c => (⟨#[c]⟩ : Str)), SgT x := fun x hx => by
    obtain ⟨c, hc, rfl⟩ := List.mem_map.mp hx
    intro y hy
    have : y = c := by simpa using hy
    subst this
    exact hg y (by rw [eL]; simp [(List.mem_filter.mp hc).1])
  refine lcW walk_str S0 (Same.refl _) (fun _ z => z.elim) (fun _ _ _ => trivial) (fun i acc F1 H1 => acc = (((a.take i).filter fun c => !decide (c ∈ ("0123456789abcdef" : Str).cps.toList)).map fun c => (⟨#[c]⟩ : Str)).map V.str) (fun _ _ _ _ _ _ _ _ _ r => r) rfl ?_ ?_
  · rintro i x acc d F1 H1 H2 hi ⟨rfl, c, hc, rfl⟩ hd nS st f0 e hl rr
    walk_at "r"
    refine ⟨c, _, rfl, rfl, ?_⟩
    have hc2 : a[i]? = some c := by simpa using hc
    walk_at "r"
    refine ifn (fun hin => ?_) (fun hin => ?_)
    · refine lc_skip hd nS st f0 e hl (.rfl' st.fh) ?_
      rw [rr, List.take_succ, hc2]
      have hin2 := Array.mem_def.mpr hin
      simp [hin2]
    · walk_at "r"
      refine lc_end hd nS st f0 e hl (by have : i < a.length := (List.getElem?_eq_some_iff.mp hc2).1; omega) (.rfl' st.fh) ?_
      rw [rr, List.take_succ, hc2]
      have hin2 : ¬ c ∈ (Str.ofString "0123456789abcdef").cps := fun z => hin (Array.mem_def.mp z)
      simp [hin2]
  intro d acc F0 F1 H1 st hd f0 ef st1 hl2 rr
  have hd1 : H1 d = some (.lst acc) := by rw [ef] at st1; exact st1.fh _ _ upd_same
  subst rr
  walk_at "r"
  refine ⟨sz (by simp), fun c hc => ?_⟩
  have s2 := Stp.new (S := S0) (o := .lst []) (Same.refl H1) hc
  have hea : (⟨a.toArray⟩ : Str).cps.toList = a := rfl
  have hsz : (⟨a.toArray⟩ : Str).cps.size = a.length := rfl
  refine s_neStrs0 (ns := (a.filter fun c => !decide (c ∈ ("0123456789abcdef" : Str).cps.toList)).map (fun c => (⟨#[c]⟩ : Str))) hsg (SqL.of (s2.same _ _ (by rw [hd1, hsz, List.take_length]))) (SqL.of upd_same) ?_
  have sA : Same H (upd H1 c (.lst [])) := (st0 _).trans (st.same.trans s2.same)
  walk_at "r"
  refine ifn (fun hz => ?_) (fun hz => ?_)
  rotate_left
  · refine rais (fun ⟨ks, h⟩ => hz ?_) _ _ sA
    obtain ⟨ds, f', d16, _, ea, _⟩ := (tl ks).mp h
    rw [List.map_eq_nil_iff, List.filter_eq_nil_iff]
    intro x hx
    rw [ea] at hx
    obtain ⟨n, hn, rfl⟩ := List.mem_map.mp hx
    have := dg_iff.mpr ⟨n, d16 n hn, rfl⟩
    simp only [this, decide_true, Bool.not_true, Bool.false_eq_true, not_false_eq_true]
  rw [List.map_eq_nil_iff, List.filter_eq_nil_iff] at hz
  obtain ⟨ds, d16, rfl⟩ := all_dg (a := a) fun x hx => by
    have := hz x hx
    simpa using this
  clear hsg hz
  generalize upd H1 c (.lst []) = H2 at sA
  walk_at "r"
  refine ⟨_, _, rfl, text_fl f f4, by show 1 ≤ 640; decide, ?_⟩
  walk_at "r"
  refine ⟨sz (by simp), fun p2 hp2 => ?_⟩
  have s3 := (Stp.new (S := S0) (o := .lst []) (Same.refl H2) hp2).same
  walk_at "r"
  refine ⟨_, rfl, ?_⟩
  have hsz2 : (⟨(ds.map hxc).toArray⟩ : Str).cps.size = ds.length := by simp
  refine forW walk_str (fun i σ H' => ∃ fa v, σ = [some (.str t), some (.str ⟨(ds.map hxc).toArray⟩), some (.str (Str.ofString ".")), some (.str ⟨#[48 + f]⟩), some (.int f), some (.ref fa), v, none] ∧ H' fa = some (.lst ((flt (ds.take i)).map V.int)) ∧ Same H H') ⟨p2, _, rfl, upd_same, sA.trans s3⟩ (fun _ _ _ _ _ => trivial) ?_ ?_
  · rintro i x σ H' H'' hi ⟨fa, v, rfl, hfa, sH⟩ ⟨rfl, c, hc, rfl⟩
    rw [hsz2] at hi
    have hc2 : (ds.map hxc)[i]? = some c := by simpa using hc
    rw [List.getElem?_map, List.getElem?_eq_getElem hi] at hc2
    have h16 := d16 _ (List.getElem_mem hi)
    have hget := List.getElem?_eq_getElem hi
    generalize ds[i] = n at hc2 h16 hget
    cases hc2
    walk_at "r"
    refine ⟨rfl, ?_⟩
    walk_at "r"
    refine ⟨_, _, n, _, rfl, rfl, dg_occ n h16, ?_⟩
    walk_at "r"
    refine ⟨rfl, (n : Int), 4, rfl, by omega, by omega, by omega, by rw [Int.toNat_natCast]; exact h16, fun p3 H3 sH3 hp3 hp3' => ?_⟩
    have ebv : bitsV (4 : Int).toNat ((n : Nat) : Int).toNat = (flt [n]).map V.int := by
      show (fixL 4 (n : Int).toNat).map V.int = _
      rw [Int.toNat_natCast, fix4 n h16]
    rw [ebv] at hp3'
    refine ⟨fa, p3, _, _, rfl, rfl, sH3 _ _ hfa, hp3', sz ?_, fun p4 hp4 => ?_⟩
    · rw [List.length_map, List.length_map, flt_len, flt_len, List.length_take]
      simp; omega
    walk_at "r"
    refine ⟨p4, _, rfl, ?_, sH.trans (sH3.trans (Stp.new (S := S0) (Same.refl _) hp4).same)⟩
    rw [upd_same, List.take_succ, hget]
    show _ = some (HO.lst ((flt (ds.take i ++ [n])).map V.int))
    rw [flt_snoc, List.map_append]
  · rintro σ H' ⟨fa, v, rfl, hfa, sH⟩
    rw [hsz2, List.take_length] at hfa
    have hfl := flt_len ds
    walk_at "r"
    rw [List.length_map]
    have told : ∀ ks, TellT t ks ↔ (f ≤ (flt ds).length ∧ (∀ x ∈ (flt ds).drop ((flt ds).length - f), x = 0) ∧ ks = (flt ds).take ((flt ds).length - f)) := fun ks => by
      rw [tl]
      constructor
      · rintro ⟨es, g, e16, g4, ee, eg, r1, r2, r3⟩
        have e1 := (tell_uniq d16 e16 ee)
        have e2 : g = f := by simp only [List.cons.injEq, and_true] at eg; omega
        subst e1 e2
        exact ⟨r1, r2, r3⟩
      · rintro ⟨r1, r2, r3⟩
        exact ⟨ds, f, d16, f4, rfl, rfl, r1, r2, r3⟩
    refine ifd (fun h => ?_) (fun h => ?_)
    · walk_at "r"
      refine rais (fun ⟨ks, hk⟩ => ?_) _ _ sH
      have := ((told ks).mp hk).1
      omega
    walk_at "r"
    have hle : f ≤ (flt ds).length := by omega
    have ek : ((flt ds).length : Int) - (f : Int) = (((flt ds).length - f : Nat) : Int) := by omega
    rw [ek]
    refine s_slL (.of hfa) fun p5 hp5 => ?_
    rw [cutV_from, ← List.map_drop]
    refine s_inI (.of upd_same) ?_
    have s5 := (Stp.new (S := S0) (o := .lst (((flt ds).drop ((flt ds).length - f)).map V.int)) (Same.refl H') hp5).same
    walk_at "r"
    refine ifd (fun h => ?_) (fun h => ?_)
    · refine rais (fun ⟨ks, hk⟩ => ?_) _ _ (sH.trans s5)
      have := ((told ks).mp hk).2.1 _ h
      omega
    walk_at "r"
    refine s_slL (.of (s5 _ _ hfa)) fun p6 hp6 => ?_
    rw [cutV_to, ← List.map_take]
    refine q1 _ ((told _).mpr ⟨hle, fun x hx => ?_, rfl⟩) p6 _ (sH.trans (s5.trans (Stp.new (S := S0) (Same.refl _) hp6).same)) (same_none (sH.trans s5) hp6) upd_same
    rcases flt_b ds x (List.mem_of_mem_drop hx) with e | e
    · exact e
    · subst e; exact absurd hx h
abbrev s_law_pool : Stmt := topS 16
theorem sc_law_pool : FnScope ["_law_script", "_law_k", "_law_cell", "_law_big", "_law_mixed"] ["_law_script", "_law_k"] (defScope s_law_pool) := ⟨rfl, rfl, rfl, by decide +kernel, rfl, by decide +kernel, by decide +kernel⟩
def Ok_law_pool (P : Program) (w : World) (K : PySem.W.Frag) (mg : Str → Option Value) (base : Heap) : Prop := ∃ fA fd, Fn P w K mg base (L2.CX P w) 1 "_law_pool" s_law_pool fA fd ["_law_script", "_law_k"] (sp_law_pool K mg)
theorem okx_law_pool (Z : Zs K mg) {fA : Addr} {fd : FuncData} (F : Fun K "_law_pool" "_law_pool" s_law_pool fA fd) (m : mg "_law_pool" = some (.ref fA))  : Fn P w K mg base (L2.CX P w) 1 "_law_pool" s_law_pool fA fd ["_law_script", "_law_k"] (sp_law_pool K mg) := by
  refine ⟨F.okX sc_law_pool (fun vs H Q E h => h.1) (fun cdv A outer s H vs Q E hr h => ?_), m, F.kp, F.binds fun _ _ _ _ _ _ us hl => match us, hl with | [_, _], _ => rfl, F⟩
  have hu64 := hr.units
  obtain ⟨hlen, h⟩ := h
  refine ⟨_, (pss_cons (ps_set (i := 2) sc_law_pool.nd rfl (Or.inl rfl) pe_int)
    (pss_cons (ps_if (pt_cmpR op_lt (pv 1) (pe_callB (c_len K rfl) (by rfl) Z.z_len (by decide +kernel) (pa_cons (pv 0) pa_nil)) (nomark _))
      (pss_one (ps_set (i := 2) sc_law_pool.nd rfl (Or.inl rfl) (pe_ix (i_list K rfl) (pv 0) (pv 1) (fun _ _ => rfl))))
      pss_nil)
    (pss_cons (ps_set (i := 3) sc_law_pool.nd rfl (Or.inl rfl) (pe_callB (c_max2 rfl) (by rfl) Z.z_max (by decide +kernel) (pa_cons (pe_callTy c_int1 (by rfl) Z.z_int (by decide +kernel) (pa_cons (pv 2) pa_nil)) (pa_cons (pe_callTy c_int1 (by rfl) Z.z_int (by decide +kernel) (pa_cons (pe_op op_sub (pe_un un_neg pe_int) (pv 2)) pa_nil)) pa_nil))))
    (pss_cons (ps_set (i := 4) sc_law_pool.nd rfl (Or.inl rfl) (pe_op op_mod (pe_callTy c_int1 (by rfl) Z.z_int (by decide +kernel) (pa_cons (pe_op op_mul (pe_op op_add (pe_op op_add (pe_op op_add (pe_op op_mod (pe_callTy c_int1 (by rfl) Z.z_int (by decide +kernel) (pa_cons (pv 3) pa_nil)) pe_int) (pe_op op_mul (pe_op op_mul pe_int (pv 1)) (pv 1))) (pe_op op_mul pe_int (pv 1))) pe_int) pe_int) pa_nil)) pe_int))
    (pss_one (ps_ret (pe_lst (pa_cons (pe_op op_mul (pv 3) (pe_callTy c_int1 (by rfl) Z.z_int (by decide +kernel) (pa_cons (pe_cmpR op_ge (pv 3) (pe_op op_pow pe_int pe_int) (nomark _)) pa_nil))) (pa_cons (pv 4) pa_nil))))))))), ?_⟩
  obtain ⟨s, ns, k, rfl, hS, hk0, hk, q⟩ := h
  have fin : ∀ (x y : Int), 0 ≤ y → y < 2147483647 → (∀ p, H p = none → Q (.ref p) (upd H p (.lst [.int x, .int y]))) := fun x y y0 y1 p hp =>
    q p _ ⟨(Stp.new (S := S0) (Same.refl H) hp).same, hp, x, y, upd_same, y0, y1⟩
  walk_at "r"
  refine ifd (fun h => ?_) (fun h => ?_)
  · walk_at "r"
    have hl : k.toNat < ns.length := by simp at h; omega
    refine s_ixL hS (at_of (j := k.toNat) (by omega) (get_int hl)) ?_
    walk_at "r"
    exact ⟨sz (by simp), fin _ _ (Int.emod_nonneg _ (by decide)) (Int.emod_lt_of_pos _ (by decide))⟩
  · walk_at "r"
    exact ⟨sz (by simp), fin _ _ (Int.emod_nonneg _ (by decide)) (Int.emod_lt_of_pos _ (by decide))⟩
abbrev s_law_take : Stmt := topS 17
theorem sc_law_take : FnScope ["_law_source", "_law_most", "_law_drawn"] ["_law_source", "_law_most"] (defScope s_law_take) := ⟨rfl, rfl, rfl, by decide +kernel, rfl, by decide +kernel, by decide +kernel⟩
def Ok_law_take (P : Program) (w : World) (K : PySem.W.Frag) (mg : Str → Option Value) (base : Heap) : Prop := ∃ fA fd, Fn P w K mg base (L2.CX P w) 1 "_law_take" s_law_take fA fd ["_law_source", "_law_most"] (sp_law_take K mg)
theorem okx_law_take (Z : Zs K mg) {fA : Addr} {fd : FuncData} (F : Fun K "_law_take" "_law_take" s_law_take fA fd) (m : mg "_law_take" = some (.ref fA))  : Fn P w K mg base (L2.CX P w) 1 "_law_take" s_law_take fA fd ["_law_source", "_law_most"] (sp_law_take K mg) := by
  refine ⟨F.okX sc_law_take (fun vs H Q E h => h.1) (fun cdv A outer s H vs Q E hr h => ?_), m, F.kp, F.binds fun _ _ _ _ _ _ us hl => match us, hl with | [_, _], _ => rfl, F⟩
  have hu64 := hr.units
  obtain ⟨hlen, h⟩ := h
  refine ⟨_, (pss_cons (ps_if (pt_cmpR op_gt (pe_ix (i_list K rfl) (pv 0) pe_int (fun _ _ => rfl)) pe_int (nomark _))
      (pss_cons (ps_set (i := 2) sc_law_take.nd rfl (Or.inl rfl) (pe_op op_mod (pe_callTy c_int1 (by rfl) Z.z_int (by decide +kernel) (pa_cons (pe_ix (i_list K rfl) (pv 0) pe_int (fun _ _ => rfl)) pa_nil)) (pv 1)))
    (pss_cons (ps_asg (pe_op op_fdiv (pe_ix (i_list K rfl) (pv 0) pe_int (fun _ _ => rfl)) (pv 1)) (pg_sub (pv 0) pe_int set_list))
    (pss_one (ps_ret (pv 2)))))
      pss_nil)
    (pss_cons (ps_asg (pe_op op_mod (pe_callTy c_int1 (by rfl) Z.z_int (by decide +kernel) (pa_cons (pe_op op_add (pe_op op_mul (pe_ix (i_list K rfl) (pv 0) pe_int (fun _ _ => rfl)) pe_int) pe_int) pa_nil)) pe_int) (pg_sub (pv 0) pe_int set_list))
    (pss_one (ps_ret (pe_op op_mod (pe_callTy c_int1 (by rfl) Z.z_int (by decide +kernel) (pa_cons (pe_op op_fdiv (pe_op op_mod (pe_callTy c_int1 (by rfl) Z.z_int (by decide +kernel) (pa_cons (pe_op op_mul (pe_ix (i_list K rfl) (pv 0) pe_int (fun _ _ => rfl)) (pe_ix (i_list K rfl) (pv 0) pe_int (fun _ _ => rfl))) pa_nil)) pe_int) pe_int) pa_nil)) (pv 1)))))), ?_⟩
  obtain ⟨F0, p, t, rfl, hs, ht, ht2, q⟩ := h
  obtain ⟨hs0, hp0, a, b, hp, hb0, hb1⟩ := id hs
  have st : ∀ o, Stp (S1 p) F0 H F0 (upd H p o) := fun o => Stp.wr hs0 rfl hp0
  walk_at "r"
  refine ifd (fun h => ?_) (fun h => ?_)
  · walk_at "r"
    exact q _ _ (hs.wr hb0 hb1) (st _) (Int.emod_nonneg _ (by omega)) (Int.emod_lt_of_pos _ ht)
  · walk_at "r"
    exact q _ _ (hs.wr (Int.emod_nonneg _ (by decide)) (Int.emod_lt_of_pos _ (by decide))) (st _) (Int.emod_nonneg _ (by omega)) (Int.emod_lt_of_pos _ ht)
abbrev s_law_one : Stmt := topS 18
theorem sc_law_one : FnScope ["_law_source", "_law_things"] ["_law_source", "_law_things"] (defScope s_law_one) := ⟨rfl, rfl, rfl, by decide +kernel, rfl, by decide +kernel, by decide +kernel⟩
def Ok_law_one (P : Program) (w : World) (K : PySem.W.Frag) (mg : Str → Option Value) (base : Heap) : Prop := ∃ fA fd, Fn P w K mg base (L2.CX P w) 2 "_law_one" s_law_one fA fd ["_law_source", "_law_things"] (sp_law_one K mg)
theorem okx_law_one (Z : Zs K mg) {fA : Addr} {fd : FuncData} (F : Fun K "_law_one" "_law_one" s_law_one fA fd) (m : mg "_law_one" = some (.ref fA)) (C_law_take : Ok_law_take P w K mg base) : Fn P w K mg base (L2.CX P w) 2 "_law_one" s_law_one fA fd ["_law_source", "_law_things"] (sp_law_one K mg) := by
  obtain ⟨_, _, C_law_take⟩ := C_law_take
  refine ⟨F.okX sc_law_one (fun vs H Q E h => h.1) (fun cdv A outer s H vs Q E hr h => ?_), m, F.kp, F.binds fun _ _ _ _ _ _ us hl => match us, hl with | [_, _], _ => rfl, F⟩
  have hu64 := hr.units
  obtain ⟨hlen, h⟩ := h
  refine ⟨_, (pss_one (ps_ret (pe_ix (i_list K rfl) (pv 1) (pe_call C_law_take.G (hr.mono (by decide)) rfl C_law_take.m C_law_take.kp C_law_take.b .nil passL (pa_cons (pv 0) (pa_cons (pe_callB (c_len K rfl) (by rfl) Z.z_len (by decide +kernel) (pa_cons (pv 1) pa_nil)) pa_nil))) (fun _ _ => rfl)))), ?_⟩
  obtain ⟨F0, p, a, xs, rfl, hs, hn, hn0, hn1, q⟩ := h
  have ha := hs.1.seq hn
  walk_at "r"
  refine ⟨rfl, F0, p, _, rfl, hs, by omega, by omega, fun r H1 s1 st1 r0 r1 => ?_⟩
  walk_at "r"
  have hl : r.toNat < xs.length := by omega
  exact s_ixL (s1.1.seq hn) (at_of (j := r.toNat) (by omega) (List.getElem?_eq_getElem hl)) (q _ _ s1 st1 (List.getElem_mem hl))
abbrev s_law_bits : Stmt := topS 19
theorem sc_law_bits : FnScope ["_law_source", "_law_most", "_law_turn"] ["_law_source", "_law_most"] (defScope s_law_bits) := ⟨rfl, rfl, rfl, by decide +kernel, rfl, by decide +kernel, by decide +kernel⟩
def Ok_law_bits (P : Program) (w : World) (K : PySem.W.Frag) (mg : Str → Option Value) (base : Heap) : Prop := ∃ fA fd, Fn P w K mg base (L2.CX P w) 2 "_law_bits" s_law_bits fA fd ["_law_source", "_law_most"] (sp_law_bits K mg)
theorem okx_law_bits (Z : Zs K mg) {fA : Addr} {fd : FuncData} (F : Fun K "_law_bits" "_law_bits" s_law_bits fA fd) (m : mg "_law_bits" = some (.ref fA)) (C_law_take : Ok_law_take P w K mg base) : Fn P w K mg base (L2.CX P w) 2 "_law_bits" s_law_bits fA fd ["_law_source", "_law_most"] (sp_law_bits K mg) := by
  obtain ⟨_, _, C_law_take⟩ := C_law_take
  refine ⟨F.okX sc_law_bits (fun vs H Q E h => h.1) (fun cdv A outer s H vs Q E hr h => ?_), m, F.kp, F.binds fun _ _ _ _ _ _ us hl => match us, hl with | [_, _], _ => rfl, F⟩
  have hu64 := hr.units
  obtain ⟨hlen, h⟩ := h
  refine ⟨_, (pss_one (ps_ret (pe_lc (own := [("_law_turn", 2)]) (g := gName 2) (tt := tYes) (by rfl) sc_law_bits.nd (pi_range1 rfl Z.z_range (pa_cons (pe_call C_law_take.G (hr.mono (by decide)) rfl C_law_take.m C_law_take.kp C_law_take.b .nil passL (pa_cons (pv 0) (pa_cons (pe_op op_add (pv 1) pe_int) pa_nil))) pa_nil)) (blkOk_by (own := [("_law_turn", 2)]) (N := ["_law_source", "_law_most", "_law_turn"]) (sc := defScope s_law_bits) (by decide +kernel)) (fun _ _ _ _ _ => (pg_name (i := 2) sc_law_bits.nd rfl (Or.inl rfl))) (fun _ _ _ _ _ => pts_nil) (fun _ _ _ _ _ => (pe_call C_law_take.G (hr.mono (by decide)) rfl C_law_take.m C_law_take.kp C_law_take.b .nil passL (pa_cons (pv 0) (pa_cons pe_int pa_nil))))))), ?_⟩
  obtain ⟨F0, p, m', rfl, hs, m0, m1, q⟩ := h
  walk_at "r"
  refine ⟨rfl, F0, p, _, rfl, hs, by omega, by omega, fun r1 H1 s1 t1 r10 r11 => ?_⟩
  walk_at "r"
  refine ⟨_, rfl, by omega, by omega, ?_⟩
  refine lcW walk_range (S1 p) s1.1 (fun b e => e ▸ s1.dom) (fun _ _ _ => trivial) (fun i acc F H => Src F H p ∧ ∃ bs : List Int, acc = bs.map V.int ∧ bs.length = i ∧ Bits bs)
    (fun _ _ _ _ _ _ n f _ r => ⟨r.1.upd n f, r.2⟩) ⟨s1, [], rfl, rfl, fun _ h => absurd h (by simp)⟩ ?_ ?_
  · rintro j x acc d F3 H3 H4 hj ⟨rfl, rfl⟩ hd nS st f0 e hl ⟨rs, bs, rl, rn, rb⟩
    walk_at "r"
    refine ⟨rfl, F3, p, _, rfl, rs, by decide, by decide, fun r H5 s5 t5 r50 r51 => lc_end hd nS st f0 e hl (by omega) t5 ⟨s5.upd nS f0, bs ++ [r], ?_, by simp [rn], ?_⟩⟩
    · rw [rl]; simp
    · intro x hx
      rcases List.mem_append.mp hx with hx | hx
      · exact rb x hx
      · simp at hx; unfold isBit; omega
  intro d acc F3 F4 H3 st hd f0 ef st1 hl ⟨rs, bs, rl, rn, rb⟩
  subst ef
  exact q d bs _ H3 (none_of t1 hd) (rs.frz (s1.ne hd) st1.fh) (t1.trans st1) (by rw [upd_same, rl]) rb (by omega)
abbrev s_law_are_bits : Stmt := topS 20
theorem sc_law_are_bits : FnScope ["_law_told", "_law_one_here"] ["_law_told"] (defScope s_law_are_bits) := ⟨rfl, rfl, rfl, by decide +kernel, rfl, by decide +kernel, by decide +kernel⟩
def Ok_law_are_bits (P : Program) (w : World) (K : PySem.W.Frag) (mg : Str → Option Value) (base : Heap) : Prop := ∃ fA fd, Fn P w K mg base (L2.CX P w) 1 "_law_are_bits" s_law_are_bits fA fd ["_law_told"] (sp_law_are_bits K mg)
theorem okx_law_are_bits (Z : Zs K mg) {fA : Addr} {fd : FuncData} (F : Fun K "_law_are_bits" "_law_are_bits" s_law_are_bits fA fd) (m : mg "_law_are_bits" = some (.ref fA))  : Fn P w K mg base (L2.CX P w) 1 "_law_are_bits" s_law_are_bits fA fd ["_law_told"] (sp_law_are_bits K mg) := by
  refine ⟨F.okX sc_law_are_bits (fun vs H Q E h => h.1) (fun cdv A outer s H vs Q E hr h => ?_), m, F.kp, F.binds fun _ _ _ _ _ _ us hl => match us, hl with | [_], _ => rfl, F⟩
  have hu64 := hr.units
  obtain ⟨hlen, h⟩ := h
  refine ⟨_, (pss_one (ps_ret (pe_and (pe_callB (c_isi K rfl) (by rfl) Z.z_isinstance (by decide +kernel) (pa_cons (pv 0) (pa_cons (pe_bltn (v := .ty "list") (by rfl) Z.z_list (by decide +kernel) rfl) pa_nil))) (pe_one (pe_cmpR (o_eqD K rfl hu64) (pe_lc (own := [("_law_one_here", 1)]) (g := gName 1) (tt := _) (by rfl) sc_law_are_bits.nd (pi_list (pv 0)) (blkOk_by (own := [("_law_one_here", 1)]) (N := ["_law_told", "_law_one_here"]) (sc := defScope s_law_are_bits) (by decide +kernel)) (fun _ _ _ _ _ => (pg_name (i := 1) sc_law_are_bits.nd rfl (Or.inl rfl))) (fun _ _ _ _ _ => pts_one (PW.pt (pw_or (pt_val (pe_callB (c_isi K rfl) (by rfl) Z.z_isinstance (by decide +kernel) (pa_cons (pv 1) (pa_cons (pe_bltn (v := .ty "bool") (by rfl) Z.z_bool (by decide +kernel) rfl) pa_nil)))) (pw_or1 (pt_cmpR (o_notIn K rfl) (pv 1) (pe_tup (pa_cons pe_int (pa_cons pe_int pa_nil))) rfl))))) (fun _ _ _ _ _ => (pv 1))) (pe_lst pa_nil) (nomark _)))))), ?_⟩
  obtain ⟨a, bs, rfl, ha, hb, q⟩ := h
  walk_at "r"
  refine s_isi (b := true) (.base (.lst ha)) (by decide +kernel) ?_
  walk_at "r"
  refine ⟨_, rfl, ⟨_, SqL.of ha⟩, ?_⟩
  refine lcW (walk_list (xs := bs.map V.int)) S0 (Same.refl H) (fun _ z => z.elim) (fun F1 H1 st => st.same.seq (SqL.of ha)) (fun i acc F1 H1 => acc = []) (fun _ _ _ _ _ _ _ _ _ r => r) rfl ?_ ?_
  · rintro j x acc d F1 H1 H2 hj ⟨rfl, hx⟩ hd nS st f0 e hl rr
    rw [List.getElem?_map] at hx
    cases z : bs[j]? with
    | none => rw [z] at hx; cases hx
    | some b =>
      rw [z] at hx
      cases hx
      have hbb := hb b (List.mem_of_getElem? z)
      walk_at "r"
      refine s_isi (b := false) (.base (.int b)) (by decide +kernel) ?_
      walk_at "r"
      refine ⟨sz (by simp), fun t ht => ?_⟩
      have s2 := Stp.new (S := S0) (o := .tup [.int 0, .int 1]) st.fh ht
      refine ⟨t, [.int 0, .int 1], rfl, .inr (SqT.of upd_same), rfl, rfl, ?_⟩
      have eb : inV (.int b) [.int 0, .int 1] = true := by rcases hbb with rfl | rfl <;> decide
      rw [eb]
      walk_at "r"
      exact lc_skip hd nS st f0 e hl s2 rr
  · intro d acc F0 F1 H1 st hd f0 ef st1 hl rr
    subst rr
    have hd1 : H1 d = some (.lst []) := by rw [ef] at st1; exact st1.fh _ _ upd_same
    walk_at "r"
    refine ⟨sz (by simp), fun c hc => ?_⟩
    have s2 := Stp.new (S := S0) (o := .lst []) (Same.refl H1) hc
    refine s_eqL (ns := []) (ms := []) (SqL.of (s2.same _ _ hd1)) (SqL.of upd_same) ?_
    exact q _ (st.same.trans s2.same)
abbrev s_law_hex : Stmt := topS 21
theorem sc_law_hex : FnScope ["_law_bits_here", "_law_many", "_law_whole", "_law_found", "_law_at"] ["_law_bits_here"] (defScope s_law_hex) := ⟨rfl, rfl, rfl, by decide +kernel, rfl, by decide +kernel, by decide +kernel⟩
def Ok_law_hex (P : Program) (w : World) (K : PySem.W.Frag) (mg : Str → Option Value) (base : Heap) : Prop := ∃ fA fd, Fn P w K mg base (L2.CX P w) 1 "_law_hex" s_law_hex fA fd ["_law_bits_here"] (sp_law_hex K mg)
theorem okx_law_hex (Z : Zs K mg) {fA : Addr} {fd : FuncData} (F : Fun K "_law_hex" "_law_hex" s_law_hex fA fd) (m : mg "_law_hex" = some (.ref fA))  : Fn P w K mg base (L2.CX P w) 1 "_law_hex" s_law_hex fA fd ["_law_bits_here"] (sp_law_hex K mg) := by
  refine ⟨F.okX sc_law_hex (fun vs H Q E h => h.1) (fun cdv A outer s H vs Q E hr h => ?_), m, F.kp, F.binds fun _ _ _ _ _ _ us hl => match us, hl with | [_], _ => rfl, F⟩
  have hu64 := hr.units
  obtain ⟨hlen, h⟩ := h
  refine ⟨_, (pss_cons (ps_set (i := 1) sc_law_hex.nd rfl (Or.inl rfl) (pe_op op_mod (pe_op op_sub pe_int (pe_callB (c_len K rfl) (by rfl) Z.z_len (by decide +kernel) (pa_cons (pv 0) pa_nil))) pe_int))
    (pss_cons (ps_par (i := 2) (j := 3) (by rfl) sc_law_hex.nd rfl rfl (by decide) rfl rfl (pa_cons (pe_op op_cat (pv 0) (pe_op op_rep (pe_lst (pa_cons pe_int pa_nil)) (pv 1))) (pa_cons pe_str pa_nil)) (by rfl))
    (pss_cons (ps_for (passes_of rfl) rfl (pi_range3 rfl Z.z_range (pa_cons pe_int (pa_cons (pe_callB (c_len K rfl) (by rfl) Z.z_len (by decide +kernel) (pa_cons (pv 2) pa_nil)) (pa_cons pe_int pa_nil)))) (pg_name (i := 4) sc_law_hex.nd rfl (Or.inl rfl))
      (pss_one (ps_set (i := 3) sc_law_hex.nd rfl (Or.inl rfl) (pe_op op_add_str (pv 3) (pe_ix ix_str pe_str (pe_op op_add (pe_op op_add (pe_op op_add (pe_op op_mul pe_int (pe_ix (i_list K rfl) (pv 2) (pv 4) (fun _ _ => rfl))) (pe_op op_mul pe_int (pe_ix (i_list K rfl) (pv 2) (pe_op op_add (pv 4) pe_int) (fun _ _ => rfl)))) (pe_op op_mul pe_int (pe_ix (i_list K rfl) (pv 2) (pe_op op_add (pv 4) pe_int) (fun _ _ => rfl)))) (pe_ix (i_list K rfl) (pv 2) (pe_op op_add (pv 4) pe_int) (fun _ _ => rfl))) (fun _ _ => rfl))))))
    (pss_one (ps_ret (pe_op op_add_str (pe_op op_add_str (pv 3) pe_str) (pe_ix ix_str pe_str (pv 1) (fun _ _ => rfl)))))))), ?_⟩
  obtain ⟨a, bs, rfl, hS, hb, hl, q⟩ := h
  walk_at "r"
  refine ⟨sz (by simp), fun p hp => ?_⟩
  walk_at "r"
  have ef : ((0 - ↑(List.map V.int bs).length) % 4 : Int) = ((fil bs.length : Nat) : Int) := by
    rw [List.length_map]; unfold fil; omega
  rw [ef]
  have hf := fil_lt bs.length
  refine s_rep upd_same (by omega) (by omega) fun p2 hp2 => ?_
  have ha1 : p ≠ a := fun e => by rw [e, hS] at hp; cases hp
  have ha2 : p2 ≠ a := fun e => by rw [e, upd_ne ha1.symm, hS] at hp2; cases hp2
  refine ⟨a, p2, _, _, rfl, rfl, by rw [upd_ne ha2.symm, upd_ne ha1.symm]; exact hS, upd_same, sz (by rw [List.length_map, List.length_replicate]; omega), fun p3 hp3 => ?_⟩
  have st3 := ((Stp.new (S := S0) (o := .lst [.int 0]) (Same.refl H) hp).same).trans (((Stp.new (S := S0) (o := .lst (List.replicate ((fil bs.length : Nat) : Int).toNat (.int 0))) (Same.refl _) hp2).same).trans (Stp.new (S := S0) (o := .lst (bs.map V.int ++ List.replicate ((fil bs.length : Nat) : Int).toNat (.int 0))) (Same.refl _) hp3).same)
  have ew : bs.map V.int ++ List.replicate ((fil bs.length : Nat) : Int).toNat (.int 0) = (whl bs).map V.int := by
    unfold whl; rw [List.map_append, List.map_replicate, Int.toNat_natCast]
  have h3 : upd (upd (upd H p (.lst [.int 0])) p2 (.lst (List.replicate ((fil bs.length : Nat) : Int).toNat (.int 0)))) p3 (.lst (bs.map V.int ++ List.replicate ((fil bs.length : Nat) : Int).toNat (.int 0))) p3 = some (.lst ((whl bs).map V.int)) := by rw [upd_same, ew]
  revert st3 h3
  generalize upd (upd (upd H p (.lst [.int 0])) p2 (.lst (List.replicate ((fil bs.length : Nat) : Int).toNat (.int 0)))) p3 (.lst (bs.map V.int ++ List.replicate ((fil bs.length : Nat) : Int).toNat (.int 0))) = H3
  intro st3 h3
  walk_at "r"
  have hwl := whl_len bs
  have hwl2 := whl_len2 bs
  refine ⟨_, _, _, (grp (whl bs)).length, rfl, ?_, ?_⟩
  · have := rgc_up (L := (((whl bs).map V.int).length : Int)) (k := 4) (by omega) (by rw [List.length_map]; omega) (by decide) (by decide)
    rw [grp_len]
    have e : ((((whl bs).map V.int).length : Int) + 4 - 1) / 4 = (((whl bs).length / 4 : Nat) : Int) := by rw [List.length_map]; omega
    rw [e, Int.toNat_natCast] at this
    exact this
  refine forW walk_rangeC (fun i σ H' => ∃ v, σ = [some (.ref a), some (.int ((fil bs.length : Nat) : Int)), some (.ref p3), some (.str ⟨(((grp (whl bs)).take i).map hxc).toArray⟩), v] ∧ H3 = H') ⟨_, rfl, rfl⟩ (fun _ _ _ _ _ => trivial) ?_ ?_
  · rintro i x σ H' H'' hi ⟨v, rfl, rfl⟩ hy
    obtain ⟨rfl, rfl⟩ := hy
    rw [grp_len] at hi
    obtain ⟨a1, a2, a3, a4, h1, h2, h3', h4, h5⟩ := grp_get i (whl bs) (by omega)
    have b1 := whl_b hb a1 (List.mem_of_getElem? h1)
    have b2 := whl_b hb a2 (List.mem_of_getElem? h2)
    have b3 := whl_b hb a3 (List.mem_of_getElem? h3')
    have b4 := whl_b hb a4 (List.mem_of_getElem? h4)
    have ei : (0 : Int) + (i : Int) * 4 = ((4 * i : Nat) : Int) := by omega
    dsimp only
    rw [ei]
    walk_at "r"
    have at1 : ∀ (j : Nat) (z : Int), (whl bs)[j]? = some z → atI ((whl bs).map V.int) ((j : Nat) : Int) = some (.int z) := fun j z e => at_nat' (by rw [List.getElem?_map, e]; rfl)
    refine ⟨p3, _, _, .int a1, rfl, rfl, .of h3, at1 _ _ h1, ?_⟩
    walk_at "r"
    refine ⟨p3, _, _, .int a2, rfl, rfl, .of h3, at1 (4 * i + 1) _ h2, ?_⟩
    walk_at "r"
    refine ⟨p3, _, _, .int a3, rfl, rfl, .of h3, at1 (4 * i + 2) _ h3', ?_⟩
    walk_at "r"
    refine ⟨p3, _, _, .int a4, rfl, rfl, .of h3, at1 (4 * i + 3) _ h4, ?_⟩
    walk_at "r"
    have h16 : (8 * a1 + 4 * a2 + 2 * a3 + a4).toNat < 16 := by omega
    have en : 8 * a1 + 4 * a2 + 2 * a3 + a4 = (((8 * a1 + 4 * a2 + 2 * a3 + a4).toNat : Nat) : Int) := by omega
    generalize (8 * a1 + 4 * a2 + 2 * a3 + a4).toNat = n at en h5 h16
    rw [en]
    refine ⟨_, _, hxc n, rfl, rfl, by rw [sizeLine_eq]; decide, atI_nat (dg_at _ h16), ?_⟩
    refine ⟨_, _, rfl, rfl, ?_, ?_⟩
    · refine sz ?_
      show (((grp (whl bs)).take i).map hxc).toArray.size + 1 ≤ _
      rw [List.size_toArray, List.length_map, List.length_take]; omega
    walk_at "r"
    have et : (⟨(((grp (whl bs)).take i).map hxc).toArray⟩ : Str) ++ (⟨#[hxc n]⟩ : Str) = (⟨(((grp (whl bs)).take (i + 1)).map hxc).toArray⟩ : Str) := by
      show (⟨(((grp (whl bs)).take i).map hxc).toArray ++ #[hxc n]⟩ : Str) = _
      congr 1
      apply Array.ext'
      rw [List.take_succ, h5]
      simp
    rw [et]
    exact ⟨_, rfl, rfl⟩
  · rintro σ H' ⟨v, rfl, rfl⟩
    walk_at "r"
    have hL : (grp (whl bs)).length ≤ 5000 := by rw [grp_len]; omega
    rw [List.take_length]
    refine ⟨_, _, rfl, rfl, ?_, ?_⟩
    · refine sz ?_
      show ((grp (whl bs)).map hxc).toArray.size + 1 ≤ _
      rw [List.size_toArray, List.length_map]; omega
    refine ⟨_, rfl, ?_⟩
    refine ⟨_, _, 48 + fil bs.length, rfl, rfl, by rw [sizeLine_eq]; decide, ?_, ?_⟩
    · exact atI_nat (fl_at _ hf)
    refine ⟨_, _, rfl, rfl, ?_, ?_⟩
    · refine sz ?_
      show (((grp (whl bs)).map hxc).toArray ++ #[46]).size + 1 ≤ _
      simp only [Array.size_append, List.size_toArray, List.length_map]; simp; omega
    have e := q H3 st3
    have e2 : hexS bs = (⟨((grp (whl bs)).map hxc).toArray⟩ : Str) ++ ("." : Str) ++ (⟨#[48 + fil bs.length]⟩ : Str) := by
      show (⟨((grp (whl bs)).map hxc ++ [46, 48 + fil bs.length]).toArray⟩ : Str) = ⟨((grp (whl bs)).map hxc).toArray ++ #[46] ++ #[48 + fil bs.length]⟩
      congr 1
      apply Array.ext'
      simp
    rw [e2] at e
    exact e
abbrev s_law_back : Stmt := topS 22
theorem sc_law_back : FnScope ["_law_text", "_law_bits_here", "_law_sign", "_law_worth", "_law_many", "_law_kept"] ["_law_text"] (defScope s_law_back) := ⟨rfl, rfl, rfl, by decide +kernel, rfl, by decide +kernel, by decide +kernel⟩
def Ok_law_back (P : Program) (w : World) (K : PySem.W.Frag) (mg : Str → Option Value) (base : Heap) : Prop := ∃ fA fd, Fn P w K mg base (L2.CX P w) 2 "_law_back" s_law_back fA fd ["_law_text"] (sp_law_back K mg)
theorem okx_law_back (Z : Zs K mg) {fA : Addr} {fd : FuncData} (F : Fun K "_law_back" "_law_back" s_law_back fA fd) (m : mg "_law_back" = some (.ref fA)) (C_law_hex : Ok_law_hex P w K mg base) : Fn P w K mg base (L2.CX P w) 2 "_law_back" s_law_back fA fd ["_law_text"] (sp_law_back K mg) := by
  obtain ⟨_, _, C_law_hex⟩ := C_law_hex
  refine ⟨F.okX sc_law_back (fun vs H Q E h => h.1) (fun cdv A outer s H vs Q E hr h => ?_), m, F.kp, F.binds fun _ _ _ _ _ _ us hl => match us, hl with | [_], _ => rfl, F⟩
  have hu64 := hr.units
  obtain ⟨hlen, h⟩ := h
  refine ⟨_, (pss_cons (ps_if (PW.pt (pw_or (pt_cmpR op_lt (pe_callB call_len_str (by rfl) Z.z_len (by decide +kernel) (pa_cons (pv 0) pa_nil)) pe_int (nomark _)) (pw_or (pt_cmpR op_ne (pe_ix ix_str (pv 0) (pe_un un_neg pe_int) (fun _ _ => rfl)) pe_str (nomark _)) (pw_or1 (pt_cmpR op_notIn_sign (pe_ix ix_str (pv 0) (pe_un un_neg pe_int) (fun _ _ => rfl)) pe_str rfl)))))
      (pss_one (ps_ret pe_non))
      pss_nil)
    (pss_cons (ps_set (i := 1) sc_law_back.nd rfl (Or.inl rfl) (pe_lst pa_nil))
    (pss_cons (ps_for (passes_of rfl) rfl (pi_str (pe_slice sl_str (pv 0) po_none (po_some (pe_un un_neg pe_int)))) (pg_name (i := 2) sc_law_back.nd rfl (Or.inl rfl))
      (pss_cons (ps_if (pt_cmpR op_notIn_sign (pv 2) pe_str rfl)
      (pss_one (ps_ret pe_non))
      pss_nil)
    (pss_cons (ps_set (i := 3) sc_law_back.nd rfl (Or.inl rfl) (pe_bm PySem.F.plainAttrs_str PySem.F.slot_str_index PySem.F.type_str_index mt_sindex pe_str (pa_cons (pv 2) pa_nil)))
    (pss_one (ps_set (i := 1) sc_law_back.nd rfl (Or.inl rfl) (pe_op op_cat (pv 1) (pe_lst (pa_cons (pe_op op_fdiv (pv 3) pe_int) (pa_cons (pe_op op_mod (pe_op op_fdiv (pv 3) pe_int) pe_int) (pa_cons (pe_op op_mod (pe_op op_fdiv (pv 3) pe_int) pe_int) (pa_cons (pe_op op_mod (pv 3) pe_int) pa_nil)))))))))))
    (pss_cons (ps_set (i := 4) sc_law_back.nd rfl (Or.inl rfl) (pe_bm PySem.F.plainAttrs_str PySem.F.slot_str_index PySem.F.type_str_index mt_sindex pe_str (pa_cons (pe_ix ix_str (pv 0) (pe_un un_neg pe_int) (fun _ _ => rfl)) pa_nil)))
    (pss_cons (ps_if (pt_cmpR op_gt (pv 4) (pe_callB (c_len K rfl) (by rfl) Z.z_len (by decide +kernel) (pa_cons (pv 1) pa_nil)) (nomark _))
      (pss_one (ps_ret pe_non))
      pss_nil)
    (pss_cons (ps_set (i := 5) sc_law_back.nd rfl (Or.inl rfl) (pe_slice (l_list K rfl) (pv 1) po_none (po_some (pe_op op_sub (pe_callB (c_len K rfl) (by rfl) Z.z_len (by decide +kernel) (pa_cons (pv 1) pa_nil)) (pv 4)))))
    (pss_one (ps_ret (pe_ifExp (pt_cmpR op_eq (pe_call C_law_hex.G (hr.mono (by decide)) rfl C_law_hex.m C_law_hex.kp C_law_hex.b .nil passL (pa_cons (pv 5) pa_nil)) (pv 0) (nomark _)) (pv 5) pe_non))))))))), ?_⟩
  obtain ⟨t, rfl, hl, q1, q2⟩ := h
  walk_at "r"
  refine ⟨t, rfl, sz (by omega), ?_⟩
  walk_at "r"
  have htl : t.length = t.cps.toList.length := (Array.length_toList).symm
  refine ifd (fun h => ?_) (fun h => ?_)
  · walk_at "r"
    refine q2 (fun ⟨ks, hk⟩ => ?_) _ (Same.refl H)
    have := (tell_pt hk).2
    omega
  obtain ⟨a, x, y, eL⟩ : ∃ a x y, t.cps.toList = a ++ [x, y] := two_ends (by omega)
  have tl := fun ks => tell_end (ks := ks) eL
  have hla : a.length + 2 = t.length := by
    rw [htl, eL, List.length_append]; rfl
  have i1 : atI t.cps.toList (-1) = some y := by
    rw [eL, show a ++ [x, y] = (a ++ [x]) ++ [y] by simp]; exact atI_last _ _
  have i2 : atI t.cps.toList (-2) = some x := by rw [eL]; exact atI_last2 _ _ _
  walk_at "r"
  refine ⟨_, _, x, rfl, rfl, sz (by omega), i2, ?_⟩
  walk_at "r"
  have ex : (⟨#[x]⟩ : Str) = Str.ofString "." ↔ x = 46 := by
    constructor
    · intro e
      have : [x] = [46] := congrArg (fun z : Str => z.cps.toList) e
      simpa using this
    · rintro rfl; rfl
  refine ifn (fun h46 => ?_) (fun h46 => ?_)
  rotate_left
  · walk_at "r"
    exact q2 (fun ⟨ks, hk⟩ => h46 (ex.mpr ((tl ks).mp hk).1)) _ (Same.refl H)
  have h46 := ex.mp h46
  subst h46
  walk_at "r"
  refine ⟨_, _, y, rfl, rfl, sz (by omega), i1, ?_⟩
  walk_at "r"
  refine ⟨y, _, rfl, rfl, ?_⟩
  walk_at "r"
  refine ifn (fun hy => ?_) (fun hy => ?_)
  rotate_left
  · walk_at "r"
    refine q2 (fun ⟨ks, hk⟩ => hy (fls_iff.mpr ?_)) _ (Same.refl H)
    obtain ⟨_, ds, f, _, f4, _, eb, _⟩ := (tl ks).mp hk
    exact ⟨f, f4, by simpa using eb⟩
  obtain ⟨f, f4, rfl⟩ := fls_iff.mp hy
  walk_at "r"
  refine ⟨sz (by simp), fun p hp => ?_⟩
  have s1 := (Stp.new (S := S0) (o := .lst []) (Same.refl H) hp).same
  walk_at "r"
  refine ⟨_, rfl, sz (by omega), ?_⟩
  have ecut : cutS t none (some (-2)) = ⟨a.toArray⟩ := by
    unfold cutS
    rw [eL]
    congr 1
    congr 1
    have e1 : HT.sIx t.length 0 none = 0 := rfl
    have e2 : HT.sIx t.length t.length (some (-2)) = a.length := by
      show (if (-2 : Int) < 0 then ((-2 : Int) + (t.length : Int)).toNat else min (-2 : Int).toNat t.length) = _
      rw [if_pos (by decide)]; omega
    rw [e1, e2]
    simp
  rw [ecut]
  refine ⟨_, rfl, ?_⟩
  have hsz : (⟨a.toArray⟩ : Str).cps.size = a.length := rfl
  have bad : ∀ c ∈ a, c ∉ ("0123456789abcdef" : Str).cps.toList → ¬ ∃ ks, TellT t ks := fun c hc hn ⟨ks, hk⟩ => by
    obtain ⟨_, ds, f, d16, f4, ea, eb, _⟩ := (tl ks).mp hk
    rw [ea] at hc
    obtain ⟨n, hn', rfl⟩ := List.mem_map.mp hc
    exact hn (dg_iff.mpr ⟨n, d16 n hn', rfl⟩)
  refine forW walk_str (fun i σ H' => ∃ fa v w, σ = [some (.str t), some (.ref fa), v, w, none, none] ∧ H' fa = some (.lst ((flt ((dgv a).take i)).map V.int)) ∧ Same H H' ∧ ∀ c ∈ a.take i, c ∈ ("0123456789abcdef" : Str).cps.toList) ⟨p, _, _, rfl, upd_same, s1, fun c hc => absurd hc (by simp)⟩ (fun _ _ _ _ _ => trivial) ?_ ?_
  · rintro i x σ H' H'' hi ⟨fa, v, w', rfl, hfa, sH, hal⟩ ⟨rfl, c, hc, rfl⟩
    have hc2 : a[i]? = some c := by simpa using hc
    walk_at "r"
    refine ⟨c, _, rfl, rfl, ?_⟩
    walk_at "r"
    refine ifn (fun hin => ?_) (fun hin => ?_)
    rotate_left
    · walk_at "r"
      exact q2 (bad c (List.mem_of_getElem? hc2) hin) _ sH
    obtain ⟨n, h16, rfl⟩ := dg_iff.mp hin
    walk_at "r"
    refine ⟨rfl, ?_⟩
    walk_at "r"
    refine ⟨_, _, n, _, rfl, rfl, dg_occ n h16, ?_⟩
    walk_at "r"
    refine ⟨sz (by simp), fun p3 hp3 => ?_⟩
    have e4 : [V.int ((n:Int)/8), V.int ((n:Int)/4%2), V.int ((n:Int)/2%2), V.int ((n:Int)%2)] = (flt [n]).map V.int := by
      have a1 : (n:Int)/8 = ((n/8%2:Nat):Int) := by omega
      have a2 : (n:Int)/4%2 = ((n/4%2:Nat):Int) := by omega
      have a3 : (n:Int)/2%2 = ((n/2%2:Nat):Int) := by omega
      have a4 : (n:Int)%2 = ((n%2:Nat):Int) := by omega
      rw [a1, a2, a3, a4]; rfl
    rw [e4]
    have s3 := (Stp.new (S := S0) (o := .lst ((flt [n]).map V.int)) (Same.refl _) hp3).same
    refine ⟨fa, p3, _, _, rfl, rfl, s3 _ _ hfa, upd_same, sz ?_, fun p4 hp4 => ?_⟩
    · rw [List.length_map, List.length_map, flt_len, flt_len, List.length_take]
      have : (dgv a).length = a.length := List.length_map _
      simp; omega
    walk_at "r"
    refine ⟨p4, _, _, rfl, ?_, sH.trans (s3.trans (Stp.new (S := S0) (Same.refl _) hp4).same), fun c hc => ?_⟩
    · have hget : (dgv a)[i]? = some n := by
        unfold dgv
        rw [List.getElem?_map, hc2]
        show some (unx (hxc n)) = _
        rw [unx_hxc n h16]
      rw [upd_same, List.take_succ, hget]
      show _ = some (HO.lst ((flt ((dgv a).take i ++ [n])).map V.int))
      rw [flt_snoc, List.map_append]
    · rw [List.take_succ, hc2, List.mem_append] at hc
      rcases hc with hc | hc
      · exact hal c hc
      · have : c = hxc n := by simpa using hc
        rw [this]; exact hin
  rintro σ H' ⟨fa, v, w', rfl, hfa, sH, hal⟩
  rw [hsz] at hfa hal
  rw [List.take_length] at hal
  obtain ⟨ds, d16, rfl⟩ := all_dg hal
  have edg : dgv (ds.map hxc) = ds := by
    unfold dgv
    rw [List.map_map]
    conv => rhs; rw [← List.map_id ds]
    exact List.map_congr_left fun d hd => unx_hxc d (d16 d hd)
  rw [edg, List.length_map, List.take_length] at hfa
  have hfl := flt_len ds
  rw [List.length_map] at hla
  have told : ∀ ks, TellT t ks → (f ≤ (flt ds).length ∧ (∀ x ∈ (flt ds).drop ((flt ds).length - f), x = 0) ∧ ks = (flt ds).take ((flt ds).length - f)) := fun ks => by
    rw [tl]
    rintro ⟨_, es, g, e16, g4, ee, eg, r1, r2, r3⟩
    have e1 := (tell_uniq d16 e16 ee)
    have e2 : g = f := by simp only [List.cons.injEq, and_true] at eg; omega
    subst e1 e2
    exact ⟨r1, r2, r3⟩
  clear hal bad edg
  walk_at "r"
  refine ⟨rfl, ?_⟩
  walk_at "r"
  refine ⟨_, _, _, rfl, rfl, sz (by omega), i1, ?_⟩
  walk_at "r"
  refine ⟨_, _, f, _, rfl, rfl, fl_occ f f4, ?_⟩
  walk_at "r"
  rw [List.length_map]
  refine ifd (fun h => ?_) (fun h => ?_)
  · walk_at "r"
    refine q2 (fun ⟨ks, hk⟩ => ?_) _ sH
    have := (told ks hk).1
    omega
  walk_at "r"
  have hle : f ≤ (flt ds).length := by omega
  rw [List.length_map]
  have ek : ((flt ds).length : Int) - (f : Int) = (((flt ds).length - f : Nat) : Int) := by omega
  rw [ek]
  refine s_slL (.of hfa) fun p5 hp5 => ?_
  rw [cutV_to, ← List.map_take]
  have s5 := (Stp.new (S := S0) (o := .lst (((flt ds).take ((flt ds).length - f)).map V.int)) (Same.refl H') hp5).same
  walk_at "r"
  have hB : B01 ((flt ds).take ((flt ds).length - f)) := fun x hx => flt_b ds x (List.mem_of_mem_take hx)
  refine ⟨rfl, p5, _, rfl, upd_same, hB, by rw [List.length_take]; omega, fun H6 s6 => ?_⟩
  walk_at "r"
  have eh : hexS ((flt ds).take ((flt ds).length - f)) = t ↔ TellT t ((flt ds).take ((flt ds).length - f)) := by
    constructor
    · rintro e
      exact ⟨hB, congrArg (fun z : Str => z.cps.toList) e⟩
    · rintro ⟨_, e⟩
      obtain ⟨⟨c⟩⟩ := t
      show (⟨(hexL _).toArray⟩ : Str) = _
      rw [e]
  refine ifd (fun h => ?_) (fun h => ?_)
  · walk_at "r"
    exact q1 _ (eh.mp h) p5 _ (sH.trans (s5.trans s6)) (same_none sH hp5) (s6 _ _ upd_same)
  · walk_at "r"
    refine q2 (fun ⟨ks, hk⟩ => h (eh.mpr ?_)) _ (sH.trans (s5.trans s6))
    rw [← (told ks hk).2.2]; exact hk
abbrev s_law_word : Stmt := topS 23
theorem sc_law_word : FnScope ["_law_text", "_law_told", "e"] ["_law_text"] (defScope s_law_word) := ⟨rfl, rfl, rfl, by decide +kernel, rfl, by decide +kernel, by decide +kernel⟩
def Ok_law_word (P : Program) (w : World) (K : PySem.W.Frag) (mg : Str → Option Value) (base : Heap) : Prop := ∃ fA fd, Fn P w K mg base (L2.CX P w) 4 "_law_word" s_law_word fA fd ["_law_text"] (sp_law_word K mg)
theorem okx_law_word (Z : Zs K mg) {fA : Addr} {fd : FuncData} (F : Fun K "_law_word" "_law_word" s_law_word fA fd) (m : mg "_law_word" = some (.ref fA)) (C_bits_of : Ok_bits_of P w K mg base) : Fn P w K mg base (L2.CX P w) 4 "_law_word" s_law_word fA fd ["_law_text"] (sp_law_word K mg) := by
  obtain ⟨_, _, C_bits_of⟩ := C_bits_of
  refine ⟨F.okX sc_law_word (fun vs H Q E h => h.1) (fun cdv A outer s H vs Q E hr h => ?_), m, F.kp, F.binds fun _ _ _ _ _ _ us hl => match us, hl with | [_], _ => rfl, F⟩
  have hu64 := hr.units
  obtain ⟨hlen, h⟩ := h
  refine ⟨_, (pss_cons (ps_try_as (i := 2) rfl rfl sc_law_word.nd rfl rfl ⟨rfl, by decide, .inl Z.x_BadText.g⟩ takes0 (fun W pn xe tk px => (pss_one (ps_set (i := 1) sc_law_word.nd rfl (Or.inl rfl) (pe_tup (pa_cons pe_str (pa_cons (pe_callS C_bits_of.G (hr.mono (by decide)) rfl C_bits_of.m C_bits_of.kp C_bits_of.b (fun σ => passAt tk σ) (pa_cons (pv 0) pa_nil)) pa_nil)))))) (fun a oe cls d pn hz hf => (pss_one (ps_set (i := 1) sc_law_word.nd rfl (Or.inl rfl) (pe_tup (pa_cons pe_str (pa_cons (pe_xf Z.x_BadText.xf Z.f_BadText_row hz hf (pv 2)) (pa_cons (pe_callB (call_isY K rfl hz hf) (by rfl) Z.z_isinstance (by decide +kernel) (pa_cons (pv 2) (pa_cons (pe_glob (v := .ref (exA mg "NarrowError")) rfl Z.x_NarrowError.g rfl) pa_nil))) (pa_cons (pe_callB (call_isY K rfl hz hf) (by rfl) Z.z_isinstance (by decide +kernel) (pa_cons (pv 2) (pa_cons (pe_glob (v := .ref (exA mg "BadBits")) rfl Z.x_BadBits.g rfl) pa_nil))) pa_nil)))))))))
    (pss_one (ps_ret (pv 1)))), ?_⟩
  obtain ⟨t, rfl, hg, hl, q1, q2⟩ := h
  walk_at "r"
  by_cases hk : ∃ ks, TellT t ks
  · refine ⟨rfl, t, rfl, hg, hl, fun ls hls p H1 e1 h1 l1 => ?_, fun hn => absurd hk hn⟩
    walk_at "r"
    refine ⟨sz (by simp), fun p2 hp2 => ?_⟩
    walk_at "r"
    exact q1 ls hls p2 p _ (e1.trans (Stp.new (S := S0) (Same.refl _) hp2).same) (same_none e1 hp2) h1 upd_same (by rw [upd_ne (fun e => by rw [e, hp2] at l1; cases l1)]; exact l1)
  · refine ⟨rfl, t, rfl, hg, hl, fun ks h => absurd ⟨ks, h⟩ hk, fun _ d H1 e1 h1 x1 => ⟨true, Z.x_BadText.exm Z.s_BadText_BadText, fun _ b hb => ?_, fun q => nomatch q⟩⟩
    have hd : (some d = none) ∨ ∃ dd fs, some d = some dd ∧ H1 dd = some (HO.xd fs) := .inr ⟨d, _, rfl, x1⟩
    walk_at "r"
    refine ⟨.ref b, rfl, rfl, rfl, d, _, _, rfl, x1, rfl, ?_⟩
    walk_at "r"
    refine s_isY Z.x_BadText.c hd Z.k_BadText_NarrowError ?_
    walk_at "r"
    refine s_isY Z.x_BadText.c hd Z.k_BadText_BadBits ?_
    walk_at "r"
    refine ⟨sz (by simp), fun p2 hp2 => ?_⟩
    walk_at "r"
    exact q2 hk p2 _ (e1.trans (Stp.new (S := S0) (Same.refl _) hp2).same) (same_none e1 hp2) upd_same
abbrev s_law_bent : Stmt := topS 24
theorem sc_law_bent : FnScope ["_law_source", "_law_text", "_law_signs", "_law_at", "_law_sign", "_law_way", "_law_odds"] ["_law_source", "_law_text"] (defScope s_law_bent) := ⟨rfl, rfl, rfl, by decide +kernel, rfl, by decide +kernel, by decide +kernel⟩
def Ok_law_bent (P : Program) (w : World) (K : PySem.W.Frag) (mg : Str → Option Value) (base : Heap) : Prop := ∃ fA fd, Fn P w K mg base (L2.CX P w) 3 "_law_bent" s_law_bent fA fd ["_law_source", "_law_text"] (sp_law_bent K mg)
theorem okx_law_bent (Z : Zs K mg) {fA : Addr} {fd : FuncData} (F : Fun K "_law_bent" "_law_bent" s_law_bent fA fd) (m : mg "_law_bent" = some (.ref fA)) (C_law_one : Ok_law_one P w K mg base) (C_law_take : Ok_law_take P w K mg base) : Fn P w K mg base (L2.CX P w) 3 "_law_bent" s_law_bent fA fd ["_law_source", "_law_text"] (sp_law_bent K mg) := by
  obtain ⟨_, _, C_law_one⟩ := C_law_one
  obtain ⟨_, _, C_law_take⟩ := C_law_take
  refine ⟨F.okX sc_law_bent (fun vs H Q E h => h.1) (fun cdv A outer s H vs Q E hr h => ?_), m, F.kp, F.binds fun _ _ _ _ _ _ us hl => match us, hl with | [_, _], _ => rfl, F⟩
  have hu64 := hr.units
  obtain ⟨hlen, h⟩ := h
  refine ⟨_, (pss_cons (ps_set (i := 2) sc_law_bent.nd rfl (Or.inl rfl) (pe_lst (pa_cons pe_str (pa_cons pe_str (pa_cons pe_str (pa_cons pe_str (pa_cons pe_str (pa_cons pe_str (pa_cons pe_str (pa_cons pe_str (pa_cons pe_str (pa_cons pe_str (pa_cons pe_str (pa_cons pe_str (pa_cons pe_str (pa_cons pe_str pa_nil))))))))))))))))
    (pss_cons (ps_par (i := 3) (j := 4) (by rfl) sc_law_bent.nd rfl rfl (by decide) rfl rfl (pa_cons (pe_call C_law_take.G (hr.mono (by decide)) rfl C_law_take.m C_law_take.kp C_law_take.b .nil passL (pa_cons (pv 0) (pa_cons (pe_op op_add (pe_callB call_len_str (by rfl) Z.z_len (by decide +kernel) (pa_cons (pv 1) pa_nil)) pe_int) pa_nil))) (pa_cons (pe_call C_law_one.G (hr.mono (by decide)) rfl C_law_one.m C_law_one.kp C_law_one.b .nil passL (pa_cons (pv 0) (pa_cons (pv 2) pa_nil))) pa_nil)) (by rfl))
    (pss_cons (ps_set (i := 5) sc_law_bent.nd rfl (Or.inl rfl) (pe_call C_law_take.G (hr.mono (by decide)) rfl C_law_take.m C_law_take.kp C_law_take.b .nil passL (pa_cons (pv 0) (pa_cons pe_int pa_nil))))
    (pss_cons (ps_if (pt_cmpR op_eq (pv 5) pe_int (nomark _))
      (pss_one (ps_ret (pe_op op_add_str (pe_op op_add_str (pe_slice sl_str (pv 1) po_none (po_some (pv 3))) (pv 4)) (pe_slice sl_str (pv 1) (po_some (pv 3)) po_none))))
      pss_nil)
    (pss_cons (ps_if (pt_cmpR op_eq (pv 5) pe_int (nomark _))
      (pss_one (ps_ret (pe_op op_add_str (pe_slice sl_str (pv 1) po_none (po_some (pv 3))) (pe_slice sl_str (pv 1) (po_some (pe_op op_add (pv 3) pe_int)) po_none))))
      pss_nil)
    (pss_cons (ps_if (pt_cmpR op_eq (pv 5) pe_int (nomark _))
      (pss_one (ps_ret (pe_op op_add_str (pe_op op_add_str (pe_slice sl_str (pv 1) po_none (po_some (pv 3))) (pv 4)) (pe_slice sl_str (pv 1) (po_some (pe_op op_add (pv 3) pe_int)) po_none))))
      pss_nil)
    (pss_cons (ps_if (pt_cmpR op_eq (pv 5) pe_int (nomark _))
      (pss_one (ps_ret (pe_op op_add_str (pe_slice sl_str (pv 1) po_none (po_some (pe_un un_neg pe_int))) (pe_call C_law_one.G (hr.mono (by decide)) rfl C_law_one.m C_law_one.kp C_law_one.b .nil passL (pa_cons (pv 0) (pa_cons (pe_lst (pa_cons pe_str (pa_cons pe_str (pa_cons pe_str (pa_cons pe_str (pa_cons pe_str (pa_cons pe_str (pa_cons pe_str (pa_cons pe_str (pa_cons pe_str (pa_cons pe_str pa_nil))))))))))) pa_nil))))))
      pss_nil)
    (pss_cons (ps_set (i := 6) sc_law_bent.nd rfl (Or.inl rfl) (pe_lst (pa_cons (pe_op op_add_str (pe_op op_add_str (pv 1) pe_str) (pv 4)) (pa_cons (pe_slice sl_str (pv 1) po_none (po_some (pe_un un_neg pe_int))) (pa_cons (pe_op op_add_str pe_str (pv 1)) (pa_cons (pe_op op_add_str pe_str (pv 1)) (pa_cons (pe_op op_add_str (pv 1) pe_str) pa_nil)))))))
    (pss_one (ps_ret (pe_call C_law_one.G (hr.mono (by decide)) rfl C_law_one.m C_law_one.kp C_law_one.b .nil passL (pa_cons (pv 0) (pa_cons (pe_op op_cat (pe_lst (pa_cons pe_str (pa_cons pe_str (pa_cons pe_str (pa_cons pe_str (pa_cons pe_str pa_nil)))))) (pv 6)) pa_nil))))))))))))), ?_⟩
  obtain ⟨F, p, t, rfl, hs, hg, hl, q⟩ := h
  walk_at "r"
  refine ⟨sz (by simp), fun p1 hp1 => ?_⟩
  obtain ⟨F1, stA, hsA, hq1⟩ : ∃ F1, Stp (S1 p) F H F1 (upd H p1 (.lst ((["0", "1", "2", "3", "4", "8", "f", "g", "A", "F", ".", " ", "-", "x"] : List Str).map V.str))) ∧ Src F1 (upd H p1 (.lst ((["0", "1", "2", "3", "4", "8", "f", "g", "A", "F", ".", " ", "-", "x"] : List Str).map V.str))) p ∧ F1 p1 = some (.lst ((["0", "1", "2", "3", "4", "8", "f", "g", "A", "F", ".", " ", "-", "x"] : List Str).map V.str)) := ⟨_, Stp.new hs.1 hp1, hs.new hp1, upd_same⟩
  walk_at "r"
  refine ⟨t, rfl, sz (by omega), ?_⟩
  walk_at "r"
  refine ⟨rfl, F1, p, _, rfl, hsA, by omega, by omega, fun i H1 s1 st1 i0 i1 => ?_⟩
  walk_at "r"
  refine ⟨rfl, F1, p, p1, _, rfl, s1, .of hq1, by decide, by decide, fun r H2 s2 st2 hr => ?_⟩
  obtain ⟨g, rfl, gg, gl⟩ := lits (n := 1) _ (by decide +kernel) r hr
  walk_at "r"
  refine ⟨rfl, F1, p, _, rfl, s2, by omega, by omega, fun w' H3 s3 st3 w0 w1 => ?_⟩
  have stB := stA.trans (st1.trans (st2.trans st3))
  have c1 := fun a b => cutS_length t a b
  have h300 : ∀ x y : Str, x.length ≤ 400 → y.length ≤ 400 → x.length + y.length ≤ 100000 := fun x y h1 h2 => by omega
  have c2 := fun a b => Nat.le_trans (c1 a b) (show t.length ≤ 300 from hl)
  walk_at "r"
  refine ifd (fun h => ?_) (fun h => ?_)
  · walk_at "r"
    refine s_slS (by omega) ?_
    walk_at "r"
    refine ⟨_, _, rfl, rfl, Nat.le_trans (m := 100000) ?_ (by decide), ?_⟩
    · have := c2 none (some i); omega
    walk_at "r"
    refine s_slS (by omega) ?_
    refine ⟨_, _, rfl, rfl, Nat.le_trans (m := 100000) ?_ (by decide), ?_⟩
    · have := c2 none (some i); have := c2 (some i) none; rw [len_app]; omega
    exact q _ F1 H3 s3 stB (sg_app (sg_app (sg_cut hg _ _) gg) (sg_cut hg _ _)) (by have := c2 none (some i); have := c2 (some i) none; rw [len_app, len_app]; omega)
  walk_at "r"
  refine ifd (fun h => ?_) (fun h => ?_)
  · walk_at "r"
    refine s_slS (by omega) ?_
    walk_at "r"
    refine s_slS (by omega) ?_
    refine ⟨_, _, rfl, rfl, Nat.le_trans (m := 100000) ?_ (by decide), ?_⟩
    · have := c2 none (some i); have := c2 (some (i + 1)) none; omega
    exact q _ F1 H3 s3 stB (sg_app (sg_cut hg _ _) (sg_cut hg _ _)) (by have := c2 none (some i); have := c2 (some (i + 1)) none; rw [len_app]; omega)
  walk_at "r"
  refine ifd (fun h => ?_) (fun h => ?_)
  · walk_at "r"
    refine s_slS (by omega) ?_
    walk_at "r"
    refine ⟨_, _, rfl, rfl, Nat.le_trans (m := 100000) ?_ (by decide), ?_⟩
    · have := c2 none (some i); omega
    walk_at "r"
    refine s_slS (by omega) ?_
    refine ⟨_, _, rfl, rfl, Nat.le_trans (m := 100000) ?_ (by decide), ?_⟩
    · have := c2 none (some i); have := c2 (some (i + 1)) none; rw [len_app]; omega
    exact q _ F1 H3 s3 stB (sg_app (sg_app (sg_cut hg _ _) gg) (sg_cut hg _ _)) (by have := c2 none (some i); have := c2 (some (i + 1)) none; rw [len_app, len_app]; omega)
  walk_at "r"
  refine ifd (fun h => ?_) (fun h => ?_)
  · walk_at "r"
    refine s_slS (by omega) ?_
    walk_at "r"
    refine ⟨sz (by simp), fun p2 hp2 => ?_⟩
    walk_at "r"
    obtain ⟨F2, stC, hsC, hq2⟩ : ∃ F2, Stp (S1 p) F1 H3 F2 (upd H3 p2 (.lst ((["0", "1", "2", "3", "4", "", "00", "01", "1.", " "] : List Str).map V.str))) ∧ Src F2 (upd H3 p2 (.lst ((["0", "1", "2", "3", "4", "", "00", "01", "1.", " "] : List Str).map V.str))) p ∧ F2 p2 = some (.lst ((["0", "1", "2", "3", "4", "", "00", "01", "1.", " "] : List Str).map V.str)) := ⟨_, Stp.new s3.1 hp2, s3.new hp2, upd_same⟩
    refine ⟨rfl, F2, p, p2, _, rfl, hsC, .of hq2, by decide, by decide, fun r H4 s4 st4 hr => ?_⟩
    obtain ⟨e, rfl, eg, el⟩ := lits (n := 2) _ (by decide +kernel) r hr
    refine ⟨_, _, rfl, rfl, Nat.le_trans (m := 100000) ?_ (by decide), ?_⟩
    · have := c2 none (some (-1)); omega
    exact q _ F2 H4 s4 (stB.trans (stC.trans st4)) (sg_app (sg_cut hg _ _) eg) (by have := c2 none (some (-1)); rw [len_app]; omega)
  walk_at "r"
  have hpt : SgT (Str.ofString ".") := by unfold SgT; decide +kernel
  have hpt0 : SgT (Str.ofString ".0") := by unfold SgT; decide +kernel
  have hbl : SgT (Str.ofString " ") := by unfold SgT; decide +kernel
  have lpt : (Str.ofString ".").length = 1 := by decide +kernel
  have lpt0 : (Str.ofString ".0").length = 2 := by decide +kernel
  have lbl : (Str.ofString " ").length = 1 := by decide +kernel
  refine ⟨_, _, rfl, rfl, Nat.le_trans (m := 100000) ?_ (by decide), ?_⟩
  · omega
  walk_at "r"
  refine ⟨_, _, rfl, rfl, Nat.le_trans (m := 100000) ?_ (by decide), ?_⟩
  · rw [len_app]; omega
  walk_at "r"
  refine s_slS (by omega) ?_
  walk_at "r"
  refine ⟨_, _, rfl, rfl, Nat.le_trans (m := 100000) ?_ (by decide), ?_⟩
  · omega
  walk_at "r"
  refine ⟨_, _, rfl, rfl, Nat.le_trans (m := 100000) ?_ (by decide), ?_⟩
  · omega
  walk_at "r"
  refine ⟨_, _, rfl, rfl, Nat.le_trans (m := 100000) ?_ (by decide), ?_⟩
  · omega
  walk_at "r"
  refine ⟨sz (by simp), fun p2 hp2 => ?_⟩
  obtain ⟨ods, eo, ho⟩ : ∃ ods : List Str, [V.str (t ++ Str.ofString "." ++ g), V.str (cutS t none (some (-2))), V.str (Str.ofString "." ++ t), V.str (Str.ofString ".0" ++ t), V.str (t ++ Str.ofString " ")] = ods.map V.str ∧ ods.length = 5 ∧ ∀ v ∈ ods.map V.str, OkS 400 v := by
    refine ⟨[t ++ Str.ofString "." ++ g, cutS t none (some (-2)), Str.ofString "." ++ t, Str.ofString ".0" ++ t, t ++ Str.ofString " "], rfl, rfl, fun v hv => ?_⟩
    simp only [List.map_cons, List.map_nil, List.mem_cons, List.not_mem_nil, or_false] at hv
    rcases hv with rfl | rfl | rfl | rfl | rfl
    · exact ⟨_, rfl, sg_app (sg_app hg hpt) gg, by rw [len_app, len_app]; omega⟩
    · exact ⟨_, rfl, sg_cut hg _ _, by have := c2 none (some (-2)); omega⟩
    · exact ⟨_, rfl, sg_app hpt hg, by rw [len_app]; omega⟩
    · exact ⟨_, rfl, sg_app hpt0 hg, by rw [len_app]; omega⟩
    · exact ⟨_, rfl, sg_app hg hbl, by rw [len_app]; omega⟩
  rw [eo]
  have stC := Stp.new (S := S1 p) (o := .lst (ods.map V.str)) s3.1 hp2
  have hsC := s3.new (o := .lst (ods.map V.str)) hp2
  have hq2 : upd H3 p2 (.lst (ods.map V.str)) p2 = some (.lst (ods.map V.str)) := upd_same
  generalize upd H3 p2 (.lst (ods.map V.str)) = H4 at stC hsC hq2
  generalize upd F1 p2 (.lst (ods.map V.str)) = F4 at stC hsC
  walk_at "r"
  refine ⟨sz (by simp), fun p3 hp3 => ?_⟩
  have n32 : p2 ≠ p3 := fun e => by rw [e, hp3] at hq2; cases hq2
  have stD := Stp.new (S := S1 p) (o := .lst ((["", ".", ".1", "0", "0."] : List Str).map V.str)) hsC.1 hp3
  have hsD := hsC.new (o := .lst ((["", ".", ".1", "0", "0."] : List Str).map V.str)) hp3
  walk_at "r"
  refine ⟨p3, p2, (["", ".", ".1", "0", "0."] : List Str).map V.str, _, rfl, rfl, upd_same, by rw [upd_ne n32]; exact hq2, sz (by simp [ho.1]), fun p4 hp4 => ?_⟩
  have stE := Stp.new (S := S1 p) (o := .lst ((["", ".", ".1", "0", "0."] : List Str).map V.str ++ ods.map V.str)) hsD.1 hp4
  have hsE := hsD.new (o := .lst ((["", ".", ".1", "0", "0."] : List Str).map V.str ++ ods.map V.str)) hp4
  walk_at "r"
  refine ⟨rfl, _, p, p4, _, rfl, hsE, .of upd_same, by simp, by simp [ho.1], fun r H5 s5 st5 hr => ?_⟩
  have hr2 : OkS 400 r := by
    rcases List.mem_append.mp hr with h | h
    · obtain ⟨e, rfl, eg, el⟩ := lits (n := 2) _ (by decide +kernel) r h
      exact ⟨_, rfl, eg, by omega⟩
    · exact ho.2 r h
  obtain ⟨e, rfl, eg, el⟩ := hr2
  exact q _ _ H5 s5 (stB.trans (stC.trans (stD.trans (stE.trans st5)))) eg (by omega)
abbrev s_law_is_refused : Stmt := topS 25
theorem sc_law_is_refused : FnScope ["_law_bits_here", "_law_told", "e"] ["_law_bits_here"] (defScope s_law_is_refused) := ⟨rfl, rfl, rfl, by decide +kernel, rfl, by decide +kernel, by decide +kernel⟩
def Ok_law_is_refused (P : Program) (w : World) (K : PySem.W.Frag) (mg : Str → Option Value) (base : Heap) : Prop := ∃ fA fd, Fn P w K mg base (L2.CX P w) 4 "_law_is_refused" s_law_is_refused fA fd ["_law_bits_here"] (sp_law_is_refused K mg)
theorem okx_law_is_refused (Z : Zs K mg) {fA : Addr} {fd : FuncData} (F : Fun K "_law_is_refused" "_law_is_refused" s_law_is_refused fA fd) (m : mg "_law_is_refused" = some (.ref fA)) (C_hex_of : Ok_hex_of P w K mg base) : Fn P w K mg base (L2.CX P w) 4 "_law_is_refused" s_law_is_refused fA fd ["_law_bits_here"] (sp_law_is_refused K mg) := by
  obtain ⟨_, _, C_hex_of⟩ := C_hex_of
  refine ⟨F.okX sc_law_is_refused (fun vs H Q E h => h.1) (fun cdv A outer s H vs Q E hr h => ?_), m, F.kp, F.binds fun _ _ _ _ _ _ us hl => match us, hl with | [_], _ => rfl, F⟩
  have hu64 := hr.units
  obtain ⟨hlen, h⟩ := h
  refine ⟨_, (pss_cons (ps_set (i := 1) sc_law_is_refused.nd rfl (Or.inl rfl) pe_bl)
    (pss_cons (ps_try_as (i := 2) rfl rfl sc_law_is_refused.nd rfl rfl ⟨rfl, by decide, .inl Z.x_BadBits.g⟩ takes0 (fun W pn xe tk px => (pss_one (ps_expr (pe_callS C_hex_of.G (hr.mono (by decide)) rfl C_hex_of.m C_hex_of.kp C_hex_of.b (fun σ => passAt tk σ) (pa_cons (pv 0) pa_nil))))) (fun a oe cls d pn hz hf => (pss_one (ps_set (i := 1) sc_law_is_refused.nd rfl (Or.inl rfl) (pe_and (pe_callB (call_isY K rfl hz hf) (by rfl) Z.z_isinstance (by decide +kernel) (pa_cons (pv 2) (pa_cons (pe_glob (v := .ref (exA mg "NarrowError")) rfl Z.x_NarrowError.g rfl) pa_nil))) (pe_one (pe_not (pe_callB (call_isY K rfl hz hf) (by rfl) Z.z_isinstance (by decide +kernel) (pa_cons (pv 2) (pa_cons (pe_glob (v := .ref (exA mg "BadText")) rfl Z.x_BadText.g rfl) pa_nil))))))))))
    (pss_one (ps_ret (pv 1))))), ?_⟩
  obtain ⟨a, xs, rfl, hS, ht, hl, hg, q⟩ := h
  walk_at "r"
  refine ⟨rfl, a, xs, rfl, hS, ht, hl, .inr ⟨hg, true, Z.x_BadBits.exm Z.s_BadBits_BadBits, fun _ b hb => ?_, fun q => nomatch q⟩⟩
  walk_at "r"
  refine s_isY Z.x_BadBits.c (.inl rfl) Z.k_BadBits_NarrowError ?_
  walk_at "r"
  refine s_isY Z.x_BadBits.c (.inl rfl) Z.k_BadBits_BadText ?_
  walk_at "r"
  exact q _ (Same.refl _)
abbrev s_law : Stmt := topS 26
theorem sc_law : FnScope ["_law_script", "_law_k", "_law_source", "_law_bits_here", "_law_kept", "_law_text", "_law_turn", "_law_bent_here", "_law_due", "_law_ends"] ["_law_script"] (defScope s_law) := ⟨rfl, rfl, rfl, by decide +kernel, rfl, by decide +kernel, by decide +kernel⟩
def Ok_law (P : Program) (w : World) (K : PySem.W.Frag) (mg : Str → Option Value) (base : Heap) : Prop := ∃ fA fd, Fn P w K mg base (L2.CX P w) 5 "law" s_law fA fd ["_law_script"] (sp_law K mg)
theorem okx_law (Z : Zs K mg) {fA : Addr} {fd : FuncData} (F : Fun K "law" "law" s_law fA fd) (m : mg "law" = some (.ref fA)) (C_bits_of : Ok_bits_of P w K mg base) (C_hex_of : Ok_hex_of P w K mg base) (C_law_is_refused : Ok_law_is_refused P w K mg base) (C_law_one : Ok_law_one P w K mg base) (C_law_take : Ok_law_take P w K mg base) (C_law_word : Ok_law_word P w K mg base) (C_law_back : Ok_law_back P w K mg base) (C_law_bent : Ok_law_bent P w K mg base) (C_law_are_bits : Ok_law_are_bits P w K mg base) (C_law_hex : Ok_law_hex P w K mg base) (C_law_bits : Ok_law_bits P w K mg base) (C_law_pool : Ok_law_pool P w K mg base) : Fn P w K mg base (L2.CX P w) 5 "law" s_law fA fd ["_law_script"] (sp_law K mg) := by
  obtain ⟨_, _, C_bits_of⟩ := C_bits_of
  obtain ⟨_, _, C_hex_of⟩ := C_hex_of
  obtain ⟨_, _, C_law_is_refused⟩ := C_law_is_refused
  obtain ⟨_, _, C_law_one⟩ := C_law_one
  obtain ⟨_, _, C_law_take⟩ := C_law_take
  obtain ⟨_, _, C_law_word⟩ := C_law_word
  obtain ⟨_, _, C_law_back⟩ := C_law_back
  obtain ⟨_, _, C_law_bent⟩ := C_law_bent
  obtain ⟨_, _, C_law_are_bits⟩ := C_law_are_bits
  obtain ⟨_, _, C_law_hex⟩ := C_law_hex
  obtain ⟨_, _, C_law_bits⟩ := C_law_bits
  obtain ⟨_, _, C_law_pool⟩ := C_law_pool
  refine ⟨F.okX sc_law (fun vs H Q E h => h.1) (fun cdv A outer s H vs Q E hr h => ?_), m, F.kp, F.binds fun _ _ _ _ _ _ us hl => match us, hl with | [_], _ => rfl, F⟩
  have hu64 := hr.units
  obtain ⟨hlen, h⟩ := h
  refine ⟨_, (pss_cons (ps_for (passes_of rfl) rfl (pi_range1 rfl Z.z_range (pa_cons (pe_callB (c_max2 rfl) (by rfl) Z.z_max (by decide +kernel) (pa_cons pe_int (pa_cons (pe_callB (c_min2 rfl) (by rfl) Z.z_min (by decide +kernel) (pa_cons (pe_callB (c_len K rfl) (by rfl) Z.z_len (by decide +kernel) (pa_cons (pv 0) pa_nil)) (pa_cons pe_int pa_nil))) pa_nil))) pa_nil)) (pg_name (i := 1) sc_law.nd rfl (Or.inl rfl))
      (pss_cons (ps_set (i := 2) sc_law.nd rfl (Or.inl rfl) (pe_call C_law_pool.G (hr.mono (by decide)) rfl C_law_pool.m C_law_pool.kp C_law_pool.b .nil passL (pa_cons (pv 0) (pa_cons (pv 1) pa_nil))))
    (pss_cons (ps_set (i := 3) sc_law.nd rfl (Or.inl rfl) (pe_call C_law_bits.G (hr.mono (by decide)) rfl C_law_bits.m C_law_bits.kp C_law_bits.b .nil passL (pa_cons (pv 2) (pa_cons pe_int pa_nil))))
    (pss_cons (ps_par (i := 4) (j := 5) (by rfl) sc_law.nd rfl rfl (by decide) rfl rfl (pa_cons (pe_callTy call_list_of (by rfl) Z.z_list (by decide +kernel) (pa_cons (pv 3) pa_nil)) (pa_cons (pe_call C_law_hex.G (hr.mono (by decide)) rfl C_law_hex.m C_law_hex.kp C_law_hex.b .nil passL (pa_cons (pv 3) pa_nil)) pa_nil)) (by rfl))
    (pss_cons (ps_if (PW.pt (pw_or (pt_cmpR op_ne (pe_call C_hex_of.G (hr.mono (by decide)) rfl C_hex_of.m C_hex_of.kp C_hex_of.b .nil passL (pa_cons (pv 3) pa_nil)) (pv 5) (nomark _)) (pw_or (pt_cmpR (o_neD K rfl hu64) (pv 3) (pv 4) (nomark _)) (pw_or (pt_not (pt_val (pe_call C_law_are_bits.G (hr.mono (by decide)) rfl C_law_are_bits.m C_law_are_bits.kp C_law_are_bits.b .nil passL (pa_cons (pe_call C_bits_of.G (hr.mono (by decide)) rfl C_bits_of.m C_bits_of.kp C_bits_of.b .nil passL (pa_cons (pv 5) pa_nil)) pa_nil)))) (pw_or1 (pt_cmpR (o_neD K rfl hu64) (pe_call C_bits_of.G (hr.mono (by decide)) rfl C_bits_of.m C_bits_of.kp C_bits_of.b .nil passL (pa_cons (pv 5) pa_nil)) (pv 4) (nomark _)))))))
      (pss_one (ps_ret pe_bl))
      pss_nil)
    (pss_cons (ps_for (passes_of rfl) rfl (pi_range1 rfl Z.z_range (pa_cons pe_int pa_nil)) (pg_name (i := 6) sc_law.nd rfl (Or.inl rfl))
      (pss_cons (ps_set (i := 7) sc_law.nd rfl (Or.inl rfl) (pe_call C_law_bent.G (hr.mono (by decide)) rfl C_law_bent.m C_law_bent.kp C_law_bent.b .nil passL (pa_cons (pv 2) (pa_cons (pv 5) pa_nil))))
    (pss_cons (ps_set (i := 8) sc_law.nd rfl (Or.inl rfl) (pe_call C_law_back.G (hr.mono (by decide)) rfl C_law_back.m C_law_back.kp C_law_back.b .nil passL (pa_cons (pv 7) pa_nil)))
    (pss_one (ps_if (pt_cmpR (o_neD K rfl hu64) (pe_call C_law_word.G (hr.mono (by decide)) rfl C_law_word.m C_law_word.kp C_law_word.b .nil passL (pa_cons (pv 7) pa_nil)) (pe_ifExp (pt_cmpR op_isN (pv 8) pe_non (nomark _)) (pe_tup (pa_cons pe_str (pa_cons pe_int (pa_cons pe_bl (pa_cons pe_bl pa_nil))))) (pe_tup (pa_cons pe_str (pa_cons (pv 8) pa_nil)))) (nomark _))
      (pss_one (ps_ret pe_bl))
      pss_nil)))))
    (pss_cons (ps_expr (pe_bm PySem.F.plainAttrs_list PySem.F.slot_list_insert PySem.F.type_list_insert mt_insert (pv 3) (pa_cons (pe_call C_law_take.G (hr.mono (by decide)) rfl C_law_take.m C_law_take.kp C_law_take.b .nil passL (pa_cons (pv 2) (pa_cons (pe_op op_add (pe_callB (c_len K rfl) (by rfl) Z.z_len (by decide +kernel) (pa_cons (pv 3) pa_nil)) pe_int) pa_nil))) (pa_cons (pe_call C_law_one.G (hr.mono (by decide)) rfl C_law_one.m C_law_one.kp C_law_one.b .nil passL (pa_cons (pv 2) (pa_cons (pe_lst (pa_cons pe_int (pa_cons (pe_un un_neg pe_int) (pa_cons pe_non (pa_cons pe_str (pa_cons (pe_lst pa_nil) (pa_cons (pe_op op_pow pe_int pe_int) pa_nil))))))) pa_nil))) pa_nil))))
    (pss_one (ps_if (pt_not (pt_val (pe_call C_law_is_refused.G (hr.mono (by decide)) rfl C_law_is_refused.m C_law_is_refused.kp C_law_is_refused.b .nil passL (pa_cons (pv 3) pa_nil))))
      (pss_one (ps_ret pe_bl))
      pss_nil)))))))))
    (pss_cons (ps_set (i := 9) sc_law.nd rfl (Or.inl rfl) (pe_lst (pa_cons (pe_call C_hex_of.G (hr.mono (by decide)) rfl C_hex_of.m C_hex_of.kp C_hex_of.b .nil passL (pa_cons (pe_lst pa_nil) pa_nil)) (pa_cons (pe_call C_hex_of.G (hr.mono (by decide)) rfl C_hex_of.m C_hex_of.kp C_hex_of.b .nil passL (pa_cons (pe_lst (pa_cons pe_int (pa_cons pe_int (pa_cons pe_int pa_nil)))) pa_nil)) (pa_cons (pe_callK0 C_hex_of.G (hr.mono (by decide)) rfl C_hex_of.m C_hex_of.kp (C_hex_of.F.kbinds 0 ["bits"] (by decide) (fun _ _ _ _ _ _ us ws hu hw => match us, ws, hu, hw with | [], [_], _, _ => rfl)) passL (pk_cons (pe_lst (pa_cons pe_int (pa_cons pe_int (pa_cons pe_int (pa_cons pe_int (pa_cons pe_int (pa_cons pe_int (pa_cons pe_int (pa_cons pe_int pa_nil))))))))) pk_nil)) (pa_cons (pe_callK0 C_bits_of.G (hr.mono (by decide)) rfl C_bits_of.m C_bits_of.kp (C_bits_of.F.kbinds 0 ["text"] (by decide) (fun _ _ _ _ _ _ us ws hu hw => match us, ws, hu, hw with | [], [_], _, _ => rfl)) passL (pk_cons pe_str pk_nil)) (pa_cons (pe_call C_bits_of.G (hr.mono (by decide)) rfl C_bits_of.m C_bits_of.kp C_bits_of.b .nil passL (pa_cons pe_str pa_nil)) pa_nil)))))))
    (pss_one (ps_ret (pe_cmpR (o_eqD K rfl hu64) (pv 9) (pe_lst (pa_cons pe_str (pa_cons pe_str (pa_cons pe_str (pa_cons (pe_lst pa_nil) (pa_cons (pe_lst (pa_cons pe_int pa_nil)) pa_nil)))))) (nomark _)))))), ?_⟩
  obtain ⟨sc, ns, rfl, hS, hl, q⟩ := h
  walk_at "r"
  refine ⟨_, rfl, by split <;> omega, by split <;> omega, ?_⟩
  refine forR (fun i σ H' => ∃ v1 v2 v3 v4 v5 v6 v7 v8, σ = [some (.ref sc), v1, v2, v3, v4, v5, v6, v7, v8, none] ∧ Same H H') ⟨_, _, _, _, _, _, _, _, rfl, Same.refl H⟩ ?_ ?_
  · rintro i σ H1 hi ⟨v1, v2, v3, v4, v5, v6, v7, v8, rfl, e1⟩
    walk_at "r"
    refine ⟨rfl, sc, ns, _, rfl, e1.seq hS, by omega, ?_, fun p H2 s2 => ?_⟩
    · have : i < 21 := Nat.lt_of_lt_of_le hi (by split <;> omega)
      omega
    walk_at "r"
    refine ⟨rfl, H1, p, 40, rfl, s2, by decide, by decide, fun qa bs F3 H3 nq s3 t3 e_qa bA lA => ?_⟩
    have nq1 : H1 qa = none := same_none s2.1 nq
    walk_at "r"
    refine ⟨qa, _, rfl, .inl (SqL.of (s3.1 _ _ e_qa)), fun l hl => ?_⟩
    have s4 := s3.new (o := .lst (bs.map V.int)) hl
    have t4 := t3.trans (Stp.new (S := S1 p) (o := .lst (bs.map V.int)) s3.1 hl)
    have f4 := (Stp.new (S := S1 p) (o := .lst (bs.map V.int)) s3.1 hl).ff
    have e_l : upd F3 l (.lst (bs.map V.int)) l = some (.lst (bs.map V.int)) := upd_same
    generalize upd F3 l (.lst (bs.map V.int)) = F4 at s4 t4 f4 e_l
    generalize upd H3 l (.lst (bs.map V.int)) = H4 at s4 t4 ⊢
    replace e_qa := f4 _ _ e_qa
    have hB : B01 bs := bA
    have hlb : bs.length ≤ 40 := by omega
    have hxl := hexS_len bs
    have hxg := hexS_sg hB
    walk_at "r"
    refine ⟨rfl, qa, bs, rfl, s4.1 _ _ e_qa, hB, by omega, fun H5 s5 => ?_⟩
    walk_at "r"
    replace s4 := s4.of s5
    clear s5 t4
    refine ⟨rfl, qa, _, rfl, .of (s4.1 _ _ e_qa), thg_ints _ _, by rw [List.length_map]; omega, .inl ⟨bs, rfl, hB, fun H6 s6 => ?_⟩⟩
    walk_at "r"
    refine ifn (fun _ => ?_) (fun h => absurd rfl h)
    replace s4 := s4.of s6
    clear s6
    walk_at "r"
    refine s_neL (SqL.of (s4.1 _ _ e_qa)) (SqL.of (s4.1 _ _ e_l)) ?_
    walk_at "r"
    refine ifn (fun _ => ?_) (fun h => absurd rfl h)
    walk_at "r"
    have uniq : ∀ ks, TellT (hexS bs) ks → ks = bs := fun ks h => tell_inj h (tell_hex hB)
    refine ⟨rfl, _, rfl, hxg, by omega, fun ks hk p7 H7 s7 n7 e7 => ?_, fun h => absurd ⟨bs, tell_hex hB⟩ h⟩
    have := uniq ks hk
    subst this
    replace s4 := s4.of s7
    clear s7 n7
    walk_at "r"
    refine ⟨rfl, p7, ks, rfl, e7, hB, fun H8 s8 => ?_⟩
    walk_at "r"
    replace s4 := s4.of s8
    clear s8 e7
    refine ⟨rfl, _, rfl, hxg, by omega, fun ks' hk p7 H7 s7 n7 e7 => ?_, fun h => absurd ⟨ks, tell_hex hB⟩ h⟩
    have := uniq ks' hk
    subst this
    replace s4 := s4.of s7
    clear s7 n7
    walk_at "r"
    refine s_neL (SqL.of e7) (SqL.of (s4.1 _ _ e_l)) ?_
    walk_at "r"
    refine ifn (fun _ => ?_) (fun h => absurd rfl h)
    walk_at "r"
    refine ⟨_, rfl, by decide, by decide, ?_⟩
    refine forR (fun i' σ H' => ∃ v6 v7 v8, σ = [some (.ref sc), some (.int (0 + (i : Int))), some (.ref p), some (.ref qa), some (.ref l), some (.str (hexS ks')), v6, v7, v8, none] ∧ Src F4 H' p) ⟨_, _, _, rfl, s4⟩ ?_ ?_
    · rintro i' σ H8 hi' ⟨v6, v7, v8, rfl, s8⟩
      walk_at "r"
      refine ⟨rfl, F4, p, _, rfl, s8, hxg, by omega, fun r F9 H9 s9 t9 rg rl => ?_⟩
      replace s9 := s9.weak t9.ff
      clear t9
      walk_at "r"
      by_cases hk : ∃ ks, TellT r ks
      · refine ⟨rfl, r, rfl, rl, fun ls hls p1 H10 s10 n10 e10 => ?_, fun h => absurd hk h⟩
        walk_at "r"
        refine ⟨rfl, r, rfl, rg, rl, fun ms hms p2 q2 H11 s11 n2 n3 e11 e12 => ?_, fun h => absurd hk h⟩
        have := tell_inj hms hls
        subst this
        walk_at "r"
        refine ⟨rfl, ?_⟩
        walk_at "r"
        refine ifd (fun h => by cases h) (fun _ => ?_)
        walk_at "r"
        refine ⟨sz (by simp), fun p3 hp3 => ?_⟩
        have s12 := (Stp.new (S := S0) (o := .tup [.str (Str.ofString "told"), .ref p1]) (Same.refl H11) hp3).same
        refine s_neSame (d := toldD ms) (.tup (.of (s12 _ _ e11)) (.cons (.str _) (.cons (.lst (.of (s12 _ _ e12)) (dp_all_ints ms)) .nil))) (.tup (.of upd_same) (.cons (.str _) (.cons (.lst (.of (s12 _ _ (s11 _ _ e10))) (dp_all_ints ms)) .nil))) (shaped_told ms) ?_
        walk_at "r"
        exact ⟨_, _, _, rfl, s9.of (s10.trans (s11.trans s12))⟩
      · refine ⟨rfl, r, rfl, rl, fun ks h => absurd ⟨ks, h⟩ hk, fun _ H10 s10 => ?_⟩
        walk_at "r"
        refine ⟨rfl, r, rfl, rg, rl, fun ks h => absurd ⟨ks, h⟩ hk, fun _ p2 H11 s11 n2 e11 => ?_⟩
        walk_at "r"
        refine ⟨rfl, ?_⟩
        walk_at "r"
        refine ifd (fun _ => ?_) (fun h => absurd rfl h)
        walk_at "r"
        refine ⟨sz (by simp), fun p3 hp3 => ?_⟩
        have s12 := (Stp.new (S := S0) (o := .tup [.str (Str.ofString "text"), .int 0, .bl true, .bl false]) (Same.refl H11) hp3).same
        refine s_neSame (d := .tuple [.str (Str.ofString "text"), .int 0, .bool true, .bool false]) (.tup (.of (s12 _ _ e11)) (.cons (.str _) (.cons (.int _) (.cons (.bl _) (.cons (.bl _) .nil))))) (.tup (.of upd_same) (.cons (.str _) (.cons (.int _) (.cons (.bl _) (.cons (.bl _) .nil))))) (by decide +kernel) ?_
        walk_at "r"
        exact ⟨_, _, _, rfl, s9.of (s10.trans (s11.trans s12))⟩
    · rintro σ H8 ⟨v6, v7, v8, rfl, s8⟩
      walk_at "r"
      refine ⟨.inl ⟨rfl, _, SqL.of (s8.1 _ _ e_qa)⟩, ?_⟩
      walk_at "r"
      refine s_len (SqL.of (s8.1 _ _ e_qa)) ?_
      walk_at "r"
      rw [List.length_map]
      refine ⟨rfl, F4, p, _, rfl, s8, by omega, by omega, fun at' H9 s9 t9 a0 a1 => ?_⟩
      walk_at "r"
      refine ⟨sz (by simp), fun p5 hp5 => ?_⟩
      have s10 := s9.new (o := .lst []) hp5
      have n5 : qa ≠ p5 := fun e => by rw [← e, s9.1 _ _ e_qa] at hp5; cases hp5
      have f5 := (Stp.new (S := S1 p) (o := .lst []) s9.1 hp5).ff
      have e5 : upd F4 p5 (.lst []) p5 = some (.lst []) := upd_same
      generalize upd F4 p5 (.lst []) = F5 at s10 f5 e5
      generalize upd H9 p5 (.lst []) = H10 at s10 ⊢
      walk_at "r"
      refine ⟨sz (by simp), fun p6 hp6 => ?_⟩
      generalize ez : (HO.lst _) = Z
      have s11 := s10.new (o := Z) hp6
      have f6 := (Stp.new (S := S1 p) (o := Z) s10.1 hp6).ff
      have e6 : upd F5 p6 Z p6 = some Z := upd_same
      generalize upd F5 p6 Z = F6 at s11 f6 e6
      generalize upd H10 p6 Z = H11 at s11 ⊢
      rw [← ez] at e6
      clear ez
      walk_at "r"
      refine ⟨rfl, F6, p, p6, _, rfl, s11, .of e6, by simp, by simp, fun y H12 s12 t12 hy => ?_⟩
      walk_at "r"
      have e_q12 := s12.1 _ _ (f6 _ _ (f5 _ _ e_qa))
      refine ⟨qa, _, at', y, rfl, rfl, e_q12, by rw [List.length_map]; exact Nat.lt_of_le_of_lt hlb (by decide), a0, by omega, ?_⟩
      have sN : Same H1 (upd H12 qa (.lst (((ks'.map V.int).take at'.toNat) ++ [y] ++ ((ks'.map V.int).drop at'.toNat)))) := fun b o eb => by
        have hb : b ≠ qa := fun e => by rw [e, nq1] at eb; cases eb
        rw [upd_ne hb]
        exact s12.1 _ _ (f6 _ _ (f5 _ _ (f4 _ _ (t3.ff _ _ eb))))
      have hp5' : H12 p5 = some (.lst []) := s12.1 _ _ (f6 _ _ e5)
      have hp5n : upd H12 qa (.lst (((ks'.map V.int).take at'.toNat) ++ [y] ++ ((ks'.map V.int).drop at'.toNat))) p5 = some (.lst []) := by rw [upd_ne n5.symm]; exact hp5'
      walk_at "r"
      have hgy : Thg (upd H12 qa (.lst (((ks'.map V.int).take at'.toNat) ++ [y] ++ ((ks'.map V.int).drop at'.toNat)))) y ∧ goodV y = false := by
        simp only [List.mem_cons, List.not_mem_nil, or_false] at hy
        rcases hy with h | h | h | h | h | h
        · rw [h]; exact ⟨.int _, by decide⟩
        · rw [h]; exact ⟨.int _, by decide⟩
        · rw [h]; exact ⟨.non, rfl⟩
        · rw [h]; exact ⟨.str _, rfl⟩
        · rw [h] at hp5n ⊢; exact ⟨.lst hp5n, rfl⟩
        · rw [h]; exact ⟨.int _, by decide⟩
      refine ⟨rfl, qa, _, rfl, .of upd_same, fun x hx => ?_, ?_, ?_, fun H13 s13 => ?_⟩
      · rcases List.mem_append.mp hx with hx | hx
        · rcases List.mem_append.mp hx with hx | hx
          · exact thg_ints _ ks' x (List.mem_of_mem_take hx)
          · rw [List.mem_singleton.mp hx]; exact hgy.1
        · exact thg_ints _ ks' x (List.mem_of_mem_drop hx)
      · simp only [List.length_append, List.length_take, List.length_drop, List.length_map, List.length_cons, List.length_nil]; omega
      · rw [List.all_append, List.all_append]
        simp [hgy.2]
      walk_at "r"
      exact ⟨_, _, _, _, _, _, _, _, rfl, e1.trans (sN.trans s13)⟩
  · rintro σ H' ⟨v1, v2, v3, v4, v5, v6, v7, v8, rfl, e1⟩
    have hd0 : TellT (Str.ofString ".0") [] := ⟨fun _ h => (by cases h), by decide +kernel⟩
    have hd1 : TellT (Str.ofString "0.3") [0] := ⟨by unfold B01; decide, by decide +kernel⟩
    have hx0 : hexS [] = Str.ofString ".0" := by decide +kernel
    have hx1 : hexS [1, 0, 1] = Str.ofString "a.1" := by decide +kernel
    have hx2 : hexS [1, 1, 1, 1, 0, 0, 0, 0] = Str.ofString "f0.0" := by decide +kernel
    walk_at "r"
    refine ⟨sz (by simp), fun p1 hp1 => ?_⟩
    walk_at "r"
    refine ⟨rfl, p1, [], rfl, .of upd_same, fun _ h => (by cases h), by simp, .inl ⟨[], rfl, fun _ h => (by cases h), fun H2 s2 => ?_⟩⟩
    walk_at "r"
    refine ⟨sz (by simp), fun p2 hp2 => ?_⟩
    walk_at "r"
    refine ⟨rfl, p2, ([1, 0, 1] : List Int).map V.int, rfl, .of upd_same, thg_ints _ _, by simp, .inl ⟨[1, 0, 1], rfl, by unfold B01; decide, fun H3 s3 => ?_⟩⟩
    walk_at "r"
    refine ⟨sz (by simp), fun p3 hp3 => ?_⟩
    walk_at "r"
    refine ⟨rfl, p3, ([1, 1, 1, 1, 0, 0, 0, 0] : List Int).map V.int, rfl, .of upd_same, thg_ints _ _, by simp, .inl ⟨[1, 1, 1, 1, 0, 0, 0, 0], rfl, by unfold B01; decide, fun H4 s4 => ?_⟩⟩
    walk_at "r"
    refine ⟨rfl, _, rfl, by unfold SgT; decide +kernel, by decide +kernel, fun ks hk p5 H5 s5 n5 e5 => ?_, fun h => absurd ⟨[], hd0⟩ h⟩
    have := tell_inj hk hd0
    subst this
    walk_at "r"
    refine ⟨rfl, _, rfl, by unfold SgT; decide +kernel, by decide +kernel, fun ks hk p6 H6 s6 n6 e6 => ?_, fun h => absurd ⟨[0], hd1⟩ h⟩
    have := tell_inj hk hd1
    subst this
    replace e5 := s6 _ _ e5
    rw [hx0, hx1, hx2]
    walk_at "r"
    refine ⟨sz (by simp), fun p7 hp7 => ?_⟩
    have s7 := (Stp.new (S := S0) (o := .lst [.str (Str.ofString ".0"), .str (Str.ofString "a.1"), .str (Str.ofString "f0.0"), .ref p5, .ref p6]) (Same.refl H6) hp7).same
    have e7 : upd H6 p7 (.lst [.str (Str.ofString ".0"), .str (Str.ofString "a.1"), .str (Str.ofString "f0.0"), .ref p5, .ref p6]) p7 = some (.lst [.str (Str.ofString ".0"), .str (Str.ofString "a.1"), .str (Str.ofString "f0.0"), .ref p5, .ref p6]) := upd_same
    generalize upd H6 p7 (.lst [.str (Str.ofString ".0"), .str (Str.ofString "a.1"), .str (Str.ofString "f0.0"), .ref p5, .ref p6]) = H7 at s7 e7 ⊢
    walk_at "r"
    refine ⟨sz (by simp), fun p8 hp8 => ?_⟩
    have s8 := (Stp.new (S := S0) (o := .lst []) (Same.refl H7) hp8).same
    have e8 : upd H7 p8 (.lst []) p8 = some (.lst []) := upd_same
    generalize upd H7 p8 (.lst []) = H8 at s8 e8 ⊢
    walk_at "r"
    refine ⟨sz (by simp), fun p9 hp9 => ?_⟩
    have s9 := (Stp.new (S := S0) (o := .lst [.int 0]) (Same.refl H8) hp9).same
    have e9 : upd H8 p9 (.lst [.int 0]) p9 = some (.lst [.int 0]) := upd_same
    generalize upd H8 p9 (.lst [.int 0]) = H9 at s9 e9 ⊢
    walk_at "r"
    refine ⟨sz (by simp), fun p10 hp10 => ?_⟩
    have s10 := (Stp.new (S := S0) (o := .lst [.str (Str.ofString ".0"), .str (Str.ofString "a.1"), .str (Str.ofString "f0.0"), .ref p8, .ref p9]) (Same.refl H9) hp10).same
    have s710 := s8.trans (s9.trans s10)
    refine s_eqSame (d := .list [.str (Str.ofString ".0"), .str (Str.ofString "a.1"), .str (Str.ofString "f0.0"), .list [], .list [.int 0]]) (.lst (.of (s710 _ _ e7)) (.cons (.str _) (.cons (.str _) (.cons (.str _) (.cons (.lst (.of (s710 _ _ (s7 _ _ e5))) .nil) (.cons (.lst (.of (s710 _ _ (s7 _ _ e6))) (.cons (.int _) .nil)) .nil)))))) (.lst (.of upd_same) (.cons (.str _) (.cons (.str _) (.cons (.str _) (.cons (.lst (.of (s10 _ _ (s9 _ _ e8))) .nil) (.cons (.lst (.of (s10 _ _ e9)) (.cons (.int _) .nil)) .nil)))))) (by decide +kernel) ?_
    exact q _
end
theorem all_mk {l : PySem.W.OpenLaw} {w : World} {K : PySem.W.Frag} {h : Heap} {mg : Str → Option Value} {fa : Addr} (X : K.In h) (G : h.Ns mainGlobals mg) (hfa : mg "law" = some (.ref fa))
    {f0 : Addr} {od0 an0 : Option Addr} {sl0 : Array (Option Value)} {oc0 kV0 dc0 pm0  ct0 : Value}
    {cc0 cda0 : Addr} (l0 : K.lookup f0 = some ⟨oc0, od0, .func (PySem.W.ksFn "__init__" "BadText.__init__" (defArgs s_BadText___init__) (defBody s_BadText___init__) (defScope s_BadText___init__) .none kV0 dc0 pm0 an0 (.ref cda0) ct0 cc0), sl0⟩) (c0 : PySem.W.codeIn K (.ref cda0) "BadText.__init__" = true)
    {f1 : Addr} {od1 an1 : Option Addr} {sl1 : Array (Option Value)} {oc1 kV1 dc1 pm1 cd1 ct1 : Value}
    (a1 : PySem.W.nsIn K mainGlobals "is_bit" = some (some (.ref f1))) (l1 : K.lookup f1 = some ⟨oc1, od1, .func (PySem.W.fnOf "is_bit" "is_bit" (defArgs s_is_bit) (defBody s_is_bit) (defScope s_is_bit) .none kV1 dc1 pm1 an1 cd1 ct1), sl1⟩) (c1 : PySem.W.codeIn K cd1 "is_bit" = true) (k1 : PySem.W.keepIn K (.ref f1) = true)
    {f2 : Addr} {od2 an2 : Option Addr} {sl2 : Array (Option Value)} {oc2 kV2 dc2 pm2 cd2 ct2 : Value}
    (a2 : PySem.W.nsIn K mainGlobals "check_bits" = some (some (.ref f2))) (l2 : K.lookup f2 = some ⟨oc2, od2, .func (PySem.W.fnOf "check_bits" "check_bits" (defArgs s_check_bits) (defBody s_check_bits) (defScope s_check_bits) .none kV2 dc2 pm2 an2 cd2 ct2), sl2⟩) (c2 : PySem.W.codeIn K cd2 "check_bits" = true) (k2 : PySem.W.keepIn K (.ref f2) = true)
    {f3 : Addr} {od3 an3 : Option Addr} {sl3 : Array (Option Value)} {oc3 kV3 dc3 pm3 cd3 ct3 : Value}
    (a3 : PySem.W.nsIn K mainGlobals "number_of" = some (some (.ref f3))) (l3 : K.lookup f3 = some ⟨oc3, od3, .func (PySem.W.fnOf "number_of" "number_of" (defArgs s_number_of) (defBody s_number_of) (defScope s_number_of) .none kV3 dc3 pm3 an3 cd3 ct3), sl3⟩) (c3 : PySem.W.codeIn K cd3 "number_of" = true) (k3 : PySem.W.keepIn K (.ref f3) = true)
    {f4 : Addr} {od4 an4 : Option Addr} {sl4 : Array (Option Value)} {oc4 kV4 dc4 pm4 cd4 ct4 : Value}
    (a4 : PySem.W.nsIn K mainGlobals "fixed" = some (some (.ref f4))) (l4 : K.lookup f4 = some ⟨oc4, od4, .func (PySem.W.fnOf "fixed" "fixed" (defArgs s_fixed) (defBody s_fixed) (defScope s_fixed) .none kV4 dc4 pm4 an4 cd4 ct4), sl4⟩) (c4 : PySem.W.codeIn K cd4 "fixed" = true) (k4 : PySem.W.keepIn K (.ref f4) = true)
    {f5 : Addr} {od5 an5 : Option Addr} {sl5 : Array (Option Value)} {oc5 kV5 dc5 pm5 cd5 ct5 : Value}
    (a5 : PySem.W.nsIn K mainGlobals "hex_of" = some (some (.ref f5))) (l5 : K.lookup f5 = some ⟨oc5, od5, .func (PySem.W.fnOf "hex_of" "hex_of" (defArgs s_hex_of) (defBody s_hex_of) (defScope s_hex_of) .none kV5 dc5 pm5 an5 cd5 ct5), sl5⟩) (c5 : PySem.W.codeIn K cd5 "hex_of" = true) (k5 : PySem.W.keepIn K (.ref f5) = true)
    {f6 : Addr} {od6 an6 : Option Addr} {sl6 : Array (Option Value)} {oc6 kV6 dc6 pm6 cd6 ct6 : Value}
    (a6 : PySem.W.nsIn K mainGlobals "bits_of" = some (some (.ref f6))) (l6 : K.lookup f6 = some ⟨oc6, od6, .func (PySem.W.fnOf "bits_of" "bits_of" (defArgs s_bits_of) (defBody s_bits_of) (defScope s_bits_of) .none kV6 dc6 pm6 an6 cd6 ct6), sl6⟩) (c6 : PySem.W.codeIn K cd6 "bits_of" = true) (k6 : PySem.W.keepIn K (.ref f6) = true)
    {f7 : Addr} {od7 an7 : Option Addr} {sl7 : Array (Option Value)} {oc7 kV7 dc7 pm7 cd7 ct7 : Value}
    (a7 : PySem.W.nsIn K mainGlobals "_law_pool" = some (some (.ref f7))) (l7 : K.lookup f7 = some ⟨oc7, od7, .func (PySem.W.fnOf "_law_pool" "_law_pool" (defArgs s_law_pool) (defBody s_law_pool) (defScope s_law_pool) .none kV7 dc7 pm7 an7 cd7 ct7), sl7⟩) (c7 : PySem.W.codeIn K cd7 "_law_pool" = true) (k7 : PySem.W.keepIn K (.ref f7) = true)
    {f8 : Addr} {od8 an8 : Option Addr} {sl8 : Array (Option Value)} {oc8 kV8 dc8 pm8 cd8 ct8 : Value}
    (a8 : PySem.W.nsIn K mainGlobals "_law_take" = some (some (.ref f8))) (l8 : K.lookup f8 = some ⟨oc8, od8, .func (PySem.W.fnOf "_law_take" "_law_take" (defArgs s_law_take) (defBody s_law_take) (defScope s_law_take) .none kV8 dc8 pm8 an8 cd8 ct8), sl8⟩) (c8 : PySem.W.codeIn K cd8 "_law_take" = true) (k8 : PySem.W.keepIn K (.ref f8) = true)
    {f9 : Addr} {od9 an9 : Option Addr} {sl9 : Array (Option Value)} {oc9 kV9 dc9 pm9 cd9 ct9 : Value}
    (a9 : PySem.W.nsIn K mainGlobals "_law_one" = some (some (.ref f9))) (l9 : K.lookup f9 = some ⟨oc9, od9, .func (PySem.W.fnOf "_law_one" "_law_one" (defArgs s_law_one) (defBody s_law_one) (defScope s_law_one) .none kV9 dc9 pm9 an9 cd9 ct9), sl9⟩) (c9 : PySem.W.codeIn K cd9 "_law_one" = true) (k9 : PySem.W.keepIn K (.ref f9) = true)
    {f10 : Addr} {od10 an10 : Option Addr} {sl10 : Array (Option Value)} {oc10 kV10 dc10 pm10 cd10 ct10 : Value}
    (a10 : PySem.W.nsIn K mainGlobals "_law_bits" = some (some (.ref f10))) (l10 : K.lookup f10 = some ⟨oc10, od10, .func (PySem.W.fnOf "_law_bits" "_law_bits" (defArgs s_law_bits) (defBody s_law_bits) (defScope s_law_bits) .none kV10 dc10 pm10 an10 cd10 ct10), sl10⟩) (c10 : PySem.W.codeIn K cd10 "_law_bits" = true) (k10 : PySem.W.keepIn K (.ref f10) = true)
    {f11 : Addr} {od11 an11 : Option Addr} {sl11 : Array (Option Value)} {oc11 kV11 dc11 pm11 cd11 ct11 : Value}
    (a11 : PySem.W.nsIn K mainGlobals "_law_are_bits" = some (some (.ref f11))) (l11 : K.lookup f11 = some ⟨oc11, od11, .func (PySem.W.fnOf "_law_are_bits" "_law_are_bits" (defArgs s_law_are_bits) (defBody s_law_are_bits) (defScope s_law_are_bits) .none kV11 dc11 pm11 an11 cd11 ct11), sl11⟩) (c11 : PySem.W.codeIn K cd11 "_law_are_bits" = true) (k11 : PySem.W.keepIn K (.ref f11) = true)
    {f12 : Addr} {od12 an12 : Option Addr} {sl12 : Array (Option Value)} {oc12 kV12 dc12 pm12 cd12 ct12 : Value}
    (a12 : PySem.W.nsIn K mainGlobals "_law_hex" = some (some (.ref f12))) (l12 : K.lookup f12 = some ⟨oc12, od12, .func (PySem.W.fnOf "_law_hex" "_law_hex" (defArgs s_law_hex) (defBody s_law_hex) (defScope s_law_hex) .none kV12 dc12 pm12 an12 cd12 ct12), sl12⟩) (c12 : PySem.W.codeIn K cd12 "_law_hex" = true) (k12 : PySem.W.keepIn K (.ref f12) = true)
    {f13 : Addr} {od13 an13 : Option Addr} {sl13 : Array (Option Value)} {oc13 kV13 dc13 pm13 cd13 ct13 : Value}
    (a13 : PySem.W.nsIn K mainGlobals "_law_back" = some (some (.ref f13))) (l13 : K.lookup f13 = some ⟨oc13, od13, .func (PySem.W.fnOf "_law_back" "_law_back" (defArgs s_law_back) (defBody s_law_back) (defScope s_law_back) .none kV13 dc13 pm13 an13 cd13 ct13), sl13⟩) (c13 : PySem.W.codeIn K cd13 "_law_back" = true) (k13 : PySem.W.keepIn K (.ref f13) = true)
    {f14 : Addr} {od14 an14 : Option Addr} {sl14 : Array (Option Value)} {oc14 kV14 dc14 pm14 cd14 ct14 : Value}
    (a14 : PySem.W.nsIn K mainGlobals "_law_word" = some (some (.ref f14))) (l14 : K.lookup f14 = some ⟨oc14, od14, .func (PySem.W.fnOf "_law_word" "_law_word" (defArgs s_law_word) (defBody s_law_word) (defScope s_law_word) .none kV14 dc14 pm14 an14 cd14 ct14), sl14⟩) (c14 : PySem.W.codeIn K cd14 "_law_word" = true) (k14 : PySem.W.keepIn K (.ref f14) = true)
    {f15 : Addr} {od15 an15 : Option Addr} {sl15 : Array (Option Value)} {oc15 kV15 dc15 pm15 cd15 ct15 : Value}
    (a15 : PySem.W.nsIn K mainGlobals "_law_bent" = some (some (.ref f15))) (l15 : K.lookup f15 = some ⟨oc15, od15, .func (PySem.W.fnOf "_law_bent" "_law_bent" (defArgs s_law_bent) (defBody s_law_bent) (defScope s_law_bent) .none kV15 dc15 pm15 an15 cd15 ct15), sl15⟩) (c15 : PySem.W.codeIn K cd15 "_law_bent" = true) (k15 : PySem.W.keepIn K (.ref f15) = true)
    {f16 : Addr} {od16 an16 : Option Addr} {sl16 : Array (Option Value)} {oc16 kV16 dc16 pm16 cd16 ct16 : Value}
    (a16 : PySem.W.nsIn K mainGlobals "_law_is_refused" = some (some (.ref f16))) (l16 : K.lookup f16 = some ⟨oc16, od16, .func (PySem.W.fnOf "_law_is_refused" "_law_is_refused" (defArgs s_law_is_refused) (defBody s_law_is_refused) (defScope s_law_is_refused) .none kV16 dc16 pm16 an16 cd16 ct16), sl16⟩) (c16 : PySem.W.codeIn K cd16 "_law_is_refused" = true) (k16 : PySem.W.keepIn K (.ref f16) = true)
    {f17 : Addr} {od17 an17 : Option Addr} {sl17 : Array (Option Value)} {oc17 kV17 dc17 pm17 cd17 ct17 : Value}
    (a17 : PySem.W.nsIn K mainGlobals "law" = some (some (.ref f17))) (l17 : K.lookup f17 = some ⟨oc17, od17, .func (PySem.W.fnOf "law" "law" (defArgs s_law) (defBody s_law) (defScope s_law) .none kV17 dc17 pm17 an17 cd17 ct17), sl17⟩) (c17 : PySem.W.codeIn K cd17 "law" = true) (k17 : PySem.W.keepIn K (.ref f17) = true)
    {R_FILLINGS : Addr} {u0_FILLINGS u1_FILLINGS u2_FILLINGS u3_FILLINGS : Tok} {rd_FILLINGS : Option Addr} {rn_FILLINGS : Nat} {rs_FILLINGS : Array (Option Value)} (tg_FILLINGS : PySem.W.nsIn K mainGlobals "FILLINGS" = some (some (.ref R_FILLINGS))) (tl_FILLINGS : K.lookup R_FILLINGS = some ⟨.type "tuple", rd_FILLINGS, .seq #[.str "0" u0_FILLINGS, .str "1" u1_FILLINGS, .str "2" u2_FILLINGS, .str "3" u3_FILLINGS] rn_FILLINGS, rs_FILLINGS⟩)
    (z_bool : PySem.W.nsIn K mainGlobals "bool" = some none)
    (z_int : PySem.W.nsIn K mainGlobals "int" = some none)
    (z_isinstance : PySem.W.nsIn K mainGlobals "isinstance" = some none)
    (z_len : PySem.W.nsIn K mainGlobals "len" = some none)
    (z_list : PySem.W.nsIn K mainGlobals "list" = some none)
    (z_max : PySem.W.nsIn K mainGlobals "max" = some none)
    (z_min : PySem.W.nsIn K mainGlobals "min" = some none)
    (z_range : PySem.W.nsIn K mainGlobals "range" = some none)
    (z_str : PySem.W.nsIn K mainGlobals "str" = some none)
    (z_super : PySem.W.nsIn K mainGlobals "super" = some none)
    {t_DIGITS : Tok} (e_DIGITS : PySem.W.nsIn K mainGlobals "DIGITS" = some (some (.str "0123456789abcdef" t_DIGITS)))
    {C_BadBits : Addr} (g_BadBits : PySem.W.nsIn K mainGlobals "BadBits" = some (some (.ref C_BadBits))) (x0_BadBits : PySem.W.excIn K C_BadBits [.type "ValueError", .type "Exception", .type "BaseException", .type "object"] "ValueError.__new__" = true)
    (x1_BadBits : PySem.W.keepIn K (.ref C_BadBits) = true) (x2_BadBits : PySem.W.subIn K (.ref C_BadBits) (.type "BaseException") = some true) (x3_BadBits : PySem.W.typeIn K (.ref C_BadBits) = some (.type "type"))
    (x4_BadBits : PySem.W.findIn K (.ref C_BadBits) "__getattribute__" = some (some (.builtin "BaseException.__getattribute__"))) (x5_BadBits : PySem.W.findIn K (.ref C_BadBits) "__getattr__" = some none) (x6_BadBits : PySem.W.hasDictIn K C_BadBits = true)
    (x7_BadBits : PySem.W.findIn K (.ref C_BadBits) "__class__" = some (some (.builtin "object.__class__"))) (x8_BadBits : PySem.W.specialIn K (.builtin "object.__class__") "__get__" = some (some (.builtin "getset_descriptor.__get__"))) (x9_BadBits : PySem.W.takesIn K (.builtin "object.__class__") = some true) (xa_BadBits : PySem.W.mroIn K C_BadBits (.type "object") = some true)
    {C_BadText : Addr} (g_BadText : PySem.W.nsIn K mainGlobals "BadText" = some (some (.ref C_BadText)))
    (x1_BadText : PySem.W.keepIn K (.ref C_BadText) = true) (x2_BadText : PySem.W.subIn K (.ref C_BadText) (.type "BaseException") = some true) (x3_BadText : PySem.W.typeIn K (.ref C_BadText) = some (.type "type"))
    (x4_BadText : PySem.W.findIn K (.ref C_BadText) "__getattribute__" = some (some (.builtin "BaseException.__getattribute__"))) (x5_BadText : PySem.W.findIn K (.ref C_BadText) "__getattr__" = some none) (x6_BadText : PySem.W.hasDictIn K C_BadText = true)
    (x7_BadText : PySem.W.findIn K (.ref C_BadText) "__class__" = some (some (.builtin "object.__class__"))) (x8_BadText : PySem.W.specialIn K (.builtin "object.__class__") "__get__" = some (some (.builtin "getset_descriptor.__get__"))) (x9_BadText : PySem.W.takesIn K (.builtin "object.__class__") = some true) (xa_BadText : PySem.W.mroIn K C_BadText (.type "object") = some true)
    {C_NarrowError : Addr} (g_NarrowError : PySem.W.nsIn K mainGlobals "NarrowError" = some (some (.ref C_NarrowError))) (x0_NarrowError : PySem.W.excIn K C_NarrowError [.type "ValueError", .type "Exception", .type "BaseException", .type "object"] "ValueError.__new__" = true)
    (x1_NarrowError : PySem.W.keepIn K (.ref C_NarrowError) = true) (x2_NarrowError : PySem.W.subIn K (.ref C_NarrowError) (.type "BaseException") = some true) (x3_NarrowError : PySem.W.typeIn K (.ref C_NarrowError) = some (.type "type"))
    (x4_NarrowError : PySem.W.findIn K (.ref C_NarrowError) "__getattribute__" = some (some (.builtin "BaseException.__getattribute__"))) (x5_NarrowError : PySem.W.findIn K (.ref C_NarrowError) "__getattr__" = some none) (x6_NarrowError : PySem.W.hasDictIn K C_NarrowError = true)
    (x7_NarrowError : PySem.W.findIn K (.ref C_NarrowError) "__class__" = some (some (.builtin "object.__class__"))) (x8_NarrowError : PySem.W.specialIn K (.builtin "object.__class__") "__get__" = some (some (.builtin "getset_descriptor.__get__"))) (x9_NarrowError : PySem.W.takesIn K (.builtin "object.__class__") = some true) (xa_NarrowError : PySem.W.mroIn K C_NarrowError (.type "object") = some true)
    {C_Outside : Addr} (g_Outside : PySem.W.nsIn K mainGlobals "Outside" = some (some (.ref C_Outside))) (x0_Outside : PySem.W.excIn K C_Outside [.type "ValueError", .type "Exception", .type "BaseException", .type "object"] "ValueError.__new__" = true)
    (x1_Outside : PySem.W.keepIn K (.ref C_Outside) = true) (x2_Outside : PySem.W.subIn K (.ref C_Outside) (.type "BaseException") = some true) (x3_Outside : PySem.W.typeIn K (.ref C_Outside) = some (.type "type"))
    (x4_Outside : PySem.W.findIn K (.ref C_Outside) "__getattribute__" = some (some (.builtin "BaseException.__getattribute__"))) (x5_Outside : PySem.W.findIn K (.ref C_Outside) "__getattr__" = some none) (x6_Outside : PySem.W.hasDictIn K C_Outside = true)
    (x7_Outside : PySem.W.findIn K (.ref C_Outside) "__class__" = some (some (.builtin "object.__class__"))) (x8_Outside : PySem.W.specialIn K (.builtin "object.__class__") "__get__" = some (some (.builtin "getset_descriptor.__get__"))) (x9_Outside : PySem.W.takesIn K (.builtin "object.__class__") = some true) (xa_Outside : PySem.W.mroIn K C_Outside (.type "object") = some true)
    (no_BadText_row : PySem.W.findIn K (.ref C_BadText) "row" = some none)
    (s_BadBits_BadBits : PySem.W.subIn K (.ref C_BadBits) (.ref C_BadBits) = some true)
    (s_BadBits_BadText : PySem.W.subIn K (.ref C_BadBits) (.ref C_BadText) = some false)
    (s_BadBits_NarrowError : PySem.W.subIn K (.ref C_BadBits) (.ref C_NarrowError) = some true)
    (s_BadBits_Outside : PySem.W.subIn K (.ref C_BadBits) (.ref C_Outside) = some false)
    (s_BadText_BadBits : PySem.W.subIn K (.ref C_BadText) (.ref C_BadBits) = some false)
    (s_BadText_BadText : PySem.W.subIn K (.ref C_BadText) (.ref C_BadText) = some true)
    (s_BadText_NarrowError : PySem.W.subIn K (.ref C_BadText) (.ref C_NarrowError) = some true)
    (s_BadText_Outside : PySem.W.subIn K (.ref C_BadText) (.ref C_Outside) = some false)
    (s_NarrowError_BadBits : PySem.W.subIn K (.ref C_NarrowError) (.ref C_BadBits) = some false)
    (s_NarrowError_BadText : PySem.W.subIn K (.ref C_NarrowError) (.ref C_BadText) = some false)
    (s_NarrowError_NarrowError : PySem.W.subIn K (.ref C_NarrowError) (.ref C_NarrowError) = some true)
    (s_NarrowError_Outside : PySem.W.subIn K (.ref C_NarrowError) (.ref C_Outside) = some false)
    (s_Outside_BadBits : PySem.W.subIn K (.ref C_Outside) (.ref C_BadBits) = some false)
    (s_Outside_BadText : PySem.W.subIn K (.ref C_Outside) (.ref C_BadText) = some false)
    (s_Outside_NarrowError : PySem.W.subIn K (.ref C_Outside) (.ref C_NarrowError) = some true)
    (s_Outside_Outside : PySem.W.subIn K (.ref C_Outside) (.ref C_Outside) = some true)
    {xn0 xq0 : Str} {xN0 : Addr} {xb0 xm0 : List Value} {xsn0 : List Str} {xsu0 : List Value} {xab0 : Bool} {xco0 : Option Bool} {xdd0 : Option Addr} {xk00 xk10 xk20 xk30 xk50 : Option Value} (xl0 : K.lookup C_BadText = some (excClassObj xn0 xq0 C_BadText xN0 xb0 xm0 true xsn0 xsu0 xab0 xco0 xdd0 xk00 xk10 xk20 xk30 xk50 "ValueError.__new__")) (xr0 : PySem.HandSPX.refsVE xm0 = true) (xs0 : PySem.W.findIn K (.ref C_BadText) "__setattr__" = some (some (.builtin "object.__setattr__")))
    {sc0 : Value} {sd0 : Option Addr} {se0 : Array (Option Value)} {sg0 : Value} {sh0 : Option Addr} {si0 : Array Value} {sj0 : Array (Option Value)} {sfile0 : Str} {st0 : Tok} (sm0 : PySem.W.ks_superIn K C_BadText C_BadText "__init__" = some (some (.builtin "ValueError.__init__"))) (sv0 : PySem.W.subIn K (.ref C_BadText) (.type "ValueError") = some true) (ss0 : PySem.W.mroIn K C_BadText (.ref C_BadText) = some true) (sa0 : PySem.W.nsIn K cStatics "thirdparty.any" = some none) (sl0 : K.lookup cc0 = some ⟨sc0, sd0, .cell (some (.ref C_BadText)), se0⟩) (sk0 : K.lookup cda0 = some ⟨sg0, sh0, .fields si0, sj0⟩) (sf0 : si0[2]? = some (.str sfile0 st0)) (ef0 : l.prog.main.file = sfile0) (et0 : (l.prog.main.scope.names.lookup ("super" : Str)).isSome = false) (pa0 : PySem.W.findIn K (.ref C_BadText) "__init__" = some (some (.ref f0))) (pb0 : PySem.W.typeIn K (.ref f0) = some (.type "function"))
    : ∃ fd : FuncData, (∀ (s : Shared) (v : Value), BindsTo s fd ⟨[v], []⟩ [("_law_script", v)]) ∧ ∀ base : Heap, K.In base → base.Ns mainGlobals mg → FnOk l.prog w K mg base (L2.CX l.prog w) 5 fa fd ["_law_script"] (sp_law K mg) := by
  have e := hfa.symm.trans (PySem.W.mg_of X G a17)
  cases e
  have e_BadBits := exA_of (PySem.W.mg_of X G g_BadBits)
  have e_BadText := exA_of (PySem.W.mg_of X G g_BadText)
  have e_NarrowError := exA_of (PySem.W.mg_of X G g_NarrowError)
  have e_Outside := exA_of (PySem.W.mg_of X G g_Outside)
  have Z : Zs K mg := ⟨PySem.W.mg_none_of X G z_bool, PySem.W.mg_none_of X G z_int, PySem.W.mg_none_of X G z_isinstance, PySem.W.mg_none_of X G z_len, PySem.W.mg_none_of X G z_list, PySem.W.mg_none_of X G z_max, PySem.W.mg_none_of X G z_min, PySem.W.mg_none_of X G z_range, PySem.W.mg_none_of X G z_str, PySem.W.mg_none_of X G z_super, ⟨_, PySem.W.mg_of X G e_DIGITS⟩, ExF.mk' (PySem.W.mg_of X G g_BadBits) x0_BadBits x1_BadBits x2_BadBits x3_BadBits x4_BadBits x5_BadBits x6_BadBits x7_BadBits x8_BadBits x9_BadBits xa_BadBits, ExG.mk' (PySem.W.mg_of X G g_BadText)  x1_BadText x2_BadText x3_BadText x4_BadText x5_BadText x6_BadText x7_BadText x8_BadText x9_BadText xa_BadText, ExF.mk' (PySem.W.mg_of X G g_NarrowError) x0_NarrowError x1_NarrowError x2_NarrowError x3_NarrowError x4_NarrowError x5_NarrowError x6_NarrowError x7_NarrowError x8_NarrowError x9_NarrowError xa_NarrowError, ExF.mk' (PySem.W.mg_of X G g_Outside) x0_Outside x1_Outside x2_Outside x3_Outside x4_Outside x5_Outside x6_Outside x7_Outside x8_Outside x9_Outside xa_Outside, (by rw [e_BadText]; exact no_BadText_row), (by rw [e_BadBits]; exact s_BadBits_BadBits), (by rw [e_BadBits]; exact kit_own x6_BadBits x3_BadBits s_BadBits_BadBits s_BadBits_BadBits), (by rw [e_BadBits, e_BadText]; exact s_BadBits_BadText), (by rw [e_BadBits, e_BadText]; exact kit_own x6_BadText x3_BadText s_BadBits_BadText s_BadBits_BadBits), (by rw [e_BadBits, e_NarrowError]; exact s_BadBits_NarrowError), (by rw [e_BadBits, e_NarrowError]; exact kit_own x6_NarrowError x3_NarrowError s_BadBits_NarrowError s_BadBits_BadBits), (by rw [e_BadBits, e_Outside]; exact s_BadBits_Outside), (by rw [e_BadBits, e_Outside]; exact kit_own x6_Outside x3_Outside s_BadBits_Outside s_BadBits_BadBits), (by rw [e_BadText, e_BadBits]; exact s_BadText_BadBits), (by rw [e_BadText, e_BadBits]; exact kit_own x6_BadBits x3_BadBits s_BadText_BadBits s_BadText_BadText), (by rw [e_BadText]; exact s_BadText_BadText), (by rw [e_BadText]; exact kit_own x6_BadText x3_BadText s_BadText_BadText s_BadText_BadText), (by rw [e_BadText, e_NarrowError]; exact s_BadText_NarrowError), (by rw [e_BadText, e_NarrowError]; exact kit_own x6_NarrowError x3_NarrowError s_BadText_NarrowError s_BadText_BadText), (by rw [e_BadText, e_Outside]; exact s_BadText_Outside), (by rw [e_BadText, e_Outside]; exact kit_own x6_Outside x3_Outside s_BadText_Outside s_BadText_BadText), (by rw [e_NarrowError, e_BadBits]; exact s_NarrowError_BadBits), (by rw [e_NarrowError, e_BadBits]; exact kit_own x6_BadBits x3_BadBits s_NarrowError_BadBits s_NarrowError_NarrowError), (by rw [e_NarrowError, e_BadText]; exact s_NarrowError_BadText), (by rw [e_NarrowError, e_BadText]; exact kit_own x6_BadText x3_BadText s_NarrowError_BadText s_NarrowError_NarrowError), (by rw [e_NarrowError]; exact s_NarrowError_NarrowError), (by rw [e_NarrowError]; exact kit_own x6_NarrowError x3_NarrowError s_NarrowError_NarrowError s_NarrowError_NarrowError), (by rw [e_NarrowError, e_Outside]; exact s_NarrowError_Outside), (by rw [e_NarrowError, e_Outside]; exact kit_own x6_Outside x3_Outside s_NarrowError_Outside s_NarrowError_NarrowError), (by rw [e_Outside, e_BadBits]; exact s_Outside_BadBits), (by rw [e_Outside, e_BadBits]; exact kit_own x6_BadBits x3_BadBits s_Outside_BadBits s_Outside_Outside), (by rw [e_Outside, e_BadText]; exact s_Outside_BadText), (by rw [e_Outside, e_BadText]; exact kit_own x6_BadText x3_BadText s_Outside_BadText s_Outside_Outside), (by rw [e_Outside, e_NarrowError]; exact s_Outside_NarrowError), (by rw [e_Outside, e_NarrowError]; exact kit_own x6_NarrowError x3_NarrowError s_Outside_NarrowError s_Outside_Outside), (by rw [e_Outside]; exact s_Outside_Outside), (by rw [e_Outside]; exact kit_own x6_Outside x3_Outside s_Outside_Outside s_Outside_Outside), CTup.mk' (PySem.W.mg_of X G tg_FILLINGS) (fun _ => SqT.ofK tl_FILLINGS rfl rfl (by show 4 ≤ sizeLine; decide) (.cons ⟨_, rfl⟩ (.cons ⟨_, rfl⟩ (.cons ⟨_, rfl⟩ (.cons ⟨_, rfl⟩ (.nil))))))⟩
  have F0 := funS_mk (st := s_BadText___init__) l0 c0
  have F1 := fun_mk (st := s_is_bit) l1 c1 k1
  have F2 := fun_mk (st := s_check_bits) l2 c2 k2
  have F3 := fun_mk (st := s_number_of) l3 c3 k3
  have F4 := fun_mk (st := s_fixed) l4 c4 k4
  have F5 := fun_mk (st := s_hex_of) l5 c5 k5
  have F6 := fun_mk (st := s_bits_of) l6 c6 k6
  have F7 := fun_mk (st := s_law_pool) l7 c7 k7
  have F8 := fun_mk (st := s_law_take) l8 c8 k8
  have F9 := fun_mk (st := s_law_one) l9 c9 k9
  have F10 := fun_mk (st := s_law_bits) l10 c10 k10
  have F11 := fun_mk (st := s_law_are_bits) l11 c11 k11
  have F12 := fun_mk (st := s_law_hex) l12 c12 k12
  have F13 := fun_mk (st := s_law_back) l13 c13 k13
  have F14 := fun_mk (st := s_law_word) l14 c14 k14
  have F15 := fun_mk (st := s_law_bent) l15 c15 k15
  have F16 := fun_mk (st := s_law_is_refused) l16 c16 k16
  have F17 := fun_mk (st := s_law) l17 c17 k17
  refine ⟨PySem.W.fnOf "law" "law" (defArgs s_law) (defBody s_law) (defScope s_law) .none kV17 dc17 pm17 an17 cd17 ct17, fun s v => .of_eq rfl, fun base _ _ => ?_⟩
  have R_BadText___init__ : Ok_BadText___init__ l.prog w K mg base := ⟨_, _, okx_BadText___init__ (P := l.prog) Z F0 (by rw [e_BadText]; exact ⟨sm0, sv0, ss0, clsIn_some xl0, sa0, ⟨_, _, _, sl0⟩, ⟨_, _, _, _, _, sk0, sf0⟩⟩) (by rw [e_BadText]; exact ⟨⟨_, _, _, _, _, _, _, _, _, _, _, _, _, _, _, xl0, xr0⟩, xs0, x2_BadText, x3_BadText, x1_BadText⟩) (by rw [e_BadText]; exact pa0) pb0 ef0 et0⟩
  have R_fixed : Ok_fixed l.prog w K mg base := ⟨_, _, okx_fixed Z F4 (PySem.W.mg_of X G a4) ⟩
  have R_bits_of : Ok_bits_of l.prog w K mg base := ⟨_, _, okx_bits_of Z F6 (PySem.W.mg_of X G a6) R_BadText___init__ R_fixed⟩
  have R_number_of : Ok_number_of l.prog w K mg base := ⟨_, _, okx_number_of Z F3 (PySem.W.mg_of X G a3) ⟩
  have R_is_bit : Ok_is_bit l.prog w K mg base := ⟨_, _, okx_is_bit Z F1 (PySem.W.mg_of X G a1) ⟩
  have R_check_bits : Ok_check_bits l.prog w K mg base := ⟨_, _, okx_check_bits Z F2 (PySem.W.mg_of X G a2) R_is_bit⟩
  have R_hex_of : Ok_hex_of l.prog w K mg base := ⟨_, _, okx_hex_of Z F5 (PySem.W.mg_of X G a5) R_number_of R_check_bits⟩
  have R_law_is_refused : Ok_law_is_refused l.prog w K mg base := ⟨_, _, okx_law_is_refused Z F16 (PySem.W.mg_of X G a16) R_hex_of⟩
  have R_law_take : Ok_law_take l.prog w K mg base := ⟨_, _, okx_law_take Z F8 (PySem.W.mg_of X G a8) ⟩
  have R_law_one : Ok_law_one l.prog w K mg base := ⟨_, _, okx_law_one Z F9 (PySem.W.mg_of X G a9) R_law_take⟩
  have R_law_word : Ok_law_word l.prog w K mg base := ⟨_, _, okx_law_word Z F14 (PySem.W.mg_of X G a14) R_bits_of⟩
  have R_law_hex : Ok_law_hex l.prog w K mg base := ⟨_, _, okx_law_hex Z F12 (PySem.W.mg_of X G a12) ⟩
  have R_law_back : Ok_law_back l.prog w K mg base := ⟨_, _, okx_law_back Z F13 (PySem.W.mg_of X G a13) R_law_hex⟩
  have R_law_bent : Ok_law_bent l.prog w K mg base := ⟨_, _, okx_law_bent Z F15 (PySem.W.mg_of X G a15) R_law_one R_law_take⟩
  have R_law_are_bits : Ok_law_are_bits l.prog w K mg base := ⟨_, _, okx_law_are_bits Z F11 (PySem.W.mg_of X G a11) ⟩
  have R_law_bits : Ok_law_bits l.prog w K mg base := ⟨_, _, okx_law_bits Z F10 (PySem.W.mg_of X G a10) R_law_take⟩
  have R_law_pool : Ok_law_pool l.prog w K mg base := ⟨_, _, okx_law_pool Z F7 (PySem.W.mg_of X G a7) ⟩
  exact (okx_law (P := l.prog) (w := w) (base := base) Z F17 (PySem.W.mg_of X G a17) R_bits_of R_hex_of R_law_is_refused R_law_one R_law_take R_law_word R_law_back R_law_bent R_law_are_bits R_law_hex R_law_bits R_law_pool).G
theorem walk {l : PySem.W.OpenLaw} {q : Program} {loose : List Str} {XP : (Str → Option Value) → Heap → Prop} {YP : World → Heap → Prop} {d : DefRec} {K : Params → PySem.W.Frag} (hn : l.most = some 63) (hdf : d.params.defaults = [])
    (hY : ∀ (w : World) (h : Heap), YP w h → (K w.params).In h)
    (F : ∀ (w : World) (mg : Str → Option Value) (fa : Addr) (h : Heap), (K w.params).In h → h.Ns mainGlobals mg → mg d.name = some (.ref fa) →
      ∃ fd : FuncData, (∀ (s : Shared) (u : Value), BindsTo s fd ⟨[u], []⟩ [("_law_script", u)]) ∧ ∀ base : Heap, (K w.params).In base → base.Ns mainGlobals mg → FnOk l.prog w (K w.params) mg base (L2.CX l.prog w) 5 fa fd ["_law_script"] (sp_law (K w.params) mg)) :
    PySem.W.WalkO q loose XP YP l.row.toRowW d [] (fun f vs => PySem.call f vs) :=
  L2.walk_of (n := 63) (k := 5) (x := "_law_script") (CX := fun w => L2.CX l.prog w) (sp := fun w => sp_lawK (K w.params)) hn (by decide) hdf ⟨rfl, by decide, by decide⟩ hY F (fun _ _ _ ns hl _ hS => law_start hl hS) fun _ _ _ _ _ z => cx_none z
end NB
open PySem PySem.W PyProof.Rows in
set_option maxRecDepth 100000 in
set_option maxHeartbeats 0 in
theorem PySem.Challenge.cw_narrowingbits_k04_hex_texts_both_ways_holds : PySem.Challenge.rw_narrowingbits_k04_hex_texts_both_ways.Holds := by
  w_on; o_law; k_head; (case hw => w_witness2)
  k_fill
  refine NB.walk (l := PySem.Challenge.rw_narrowingbits_k04_hex_texts_both_ways) rfl rfl (fun w h Y => PySem.W.kIn_of Y) ?F
  case F =>
    intro w mg fa h KX G hmg
    refine' NB.all_mk KX G hmg ?l0 ?c0 ?a1 ?l1 ?c1 ?k1 ?a2 ?l2 ?c2 ?k2 ?a3 ?l3 ?c3 ?k3 ?a4 ?l4 ?c4 ?k4 ?a5 ?l5 ?c5 ?k5 ?a6 ?l6 ?c6 ?k6 ?a7 ?l7 ?c7 ?k7 ?a8 ?l8 ?c8 ?k8 ?a9 ?l9 ?c9 ?k9 ?a10 ?l10 ?c10 ?k10 ?a11 ?l11 ?c11 ?k11 ?a12 ?l12 ?c12 ?k12 ?a13 ?l13 ?c13 ?k13 ?a14 ?l14 ?c14 ?k14 ?a15 ?l15 ?c15 ?k15 ?a16 ?l16 ?c16 ?k16 ?a17 ?l17 ?c17 ?k17 ?tg_FILLINGS ?tl_FILLINGS ?z_bool ?z_int ?z_isinstance ?z_len ?z_list ?z_max ?z_min ?z_range ?z_str ?z_super ?e_DIGITS ?g_BadBits ?x0_BadBits ?x1_BadBits ?x2_BadBits ?x3_BadBits ?x4_BadBits ?x5_BadBits ?x6_BadBits ?x7_BadBits ?x8_BadBits ?x9_BadBits ?xa_BadBits ?g_BadText ?x1_BadText ?x2_BadText ?x3_BadText ?x4_BadText ?x5_BadText ?x6_BadText ?x7_BadText ?x8_BadText ?x9_BadText ?xa_BadText ?g_NarrowError ?x0_NarrowError ?x1_NarrowError ?x2_NarrowError ?x3_NarrowError ?x4_NarrowError ?x5_NarrowError ?x6_NarrowError ?x7_NarrowError ?x8_NarrowError ?x9_NarrowError ?xa_NarrowError ?g_Outside ?x0_Outside ?x1_Outside ?x2_Outside ?x3_Outside ?x4_Outside ?x5_Outside ?x6_Outside ?x7_Outside ?x8_Outside ?x9_Outside ?xa_Outside ?no_BadText_row ?s_BadBits_BadBits ?s_BadBits_BadText ?s_BadBits_NarrowError ?s_BadBits_Outside ?s_BadText_BadBits ?s_BadText_BadText ?s_BadText_NarrowError ?s_BadText_Outside ?s_NarrowError_BadBits ?s_NarrowError_BadText ?s_NarrowError_NarrowError ?s_NarrowError_Outside ?s_Outside_BadBits ?s_Outside_BadText ?s_Outside_NarrowError ?s_Outside_Outside ?xl0 ?xr0 ?xs0 ?sm0 ?sv0 ?ss0 ?sa0 ?sl0 ?sk0 ?sf0 ?ef0 ?et0 ?pa0 ?pb0
    (case tg_FILLINGS => k_is)
    (case g_BadBits => k_is)
    (case g_BadText => k_is)
    (case g_NarrowError => k_is)
    (case g_Outside => k_is)
    (case pa0 => k_is)
    (case pb0 => k_is)
    (case l0 => k_is)
    (case c0 => k_is)
    (case a1 => k_is)
    (case l1 => k_is)
    (case c1 => k_is)
    (case k1 => k_is)
    (case a2 => k_is)
    (case l2 => k_is)
    (case c2 => k_is)
    (case k2 => k_is)
    (case a3 => k_is)
    (case l3 => k_is)
    (case c3 => k_is)
    (case k3 => k_is)
    (case a4 => k_is)
    (case l4 => k_is)
    (case c4 => k_is)
    (case k4 => k_is)
    (case a5 => k_is)
    (case l5 => k_is)
    (case c5 => k_is)
    (case k5 => k_is)
    (case a6 => k_is)
    (case l6 => k_is)
    (case c6 => k_is)
    (case k6 => k_is)
    (case a7 => k_is)
    (case l7 => k_is)
    (case c7 => k_is)
    (case k7 => k_is)
    (case a8 => k_is)
    (case l8 => k_is)
    (case c8 => k_is)
    (case k8 => k_is)
    (case a9 => k_is)
    (case l9 => k_is)
    (case c9 => k_is)
    (case k9 => k_is)
    (case a10 => k_is)
    (case l10 => k_is)
    (case c10 => k_is)
    (case k10 => k_is)
    (case a11 => k_is)
    (case l11 => k_is)
    (case c11 => k_is)
    (case k11 => k_is)
    (case a12 => k_is)
    (case l12 => k_is)
    (case c12 => k_is)
    (case k12 => k_is)
    (case a13 => k_is)
    (case l13 => k_is)
    (case c13 => k_is)
    (case k13 => k_is)
    (case a14 => k_is)
    (case l14 => k_is)
    (case c14 => k_is)
    (case k14 => k_is)
    (case a15 => k_is)
    (case l15 => k_is)
    (case c15 => k_is)
    (case k15 => k_is)
    (case a16 => k_is)
    (case l16 => k_is)
    (case c16 => k_is)
    (case k16 => k_is)
    (case a17 => k_is)
    (case l17 => k_is)
    (case c17 => k_is)
    (case k17 => k_is)
    (case tl_FILLINGS => k_is)
    (case z_bool => k_is)
    (case z_int => k_is)
    (case z_isinstance => k_is)
    (case z_len => k_is)
    (case z_list => k_is)
    (case z_max => k_is)
    (case z_min => k_is)
    (case z_range => k_is)
    (case z_str => k_is)
    (case z_super => k_is)
    (case e_DIGITS => k_is)
    (case x0_BadBits => k_exc)
    (case x1_BadBits => k_is)
    (case x2_BadBits => k_is)
    (case x3_BadBits => k_is)
    (case x4_BadBits => k_is)
    (case x5_BadBits => k_is)
    (case x6_BadBits => k_is)
    (case x7_BadBits => k_is)
    (case x8_BadBits => k_is)
    (case x9_BadBits => k_is)
    (case xa_BadBits => k_is)
    (case x1_BadText => k_is)
    (case x2_BadText => k_is)
    (case x3_BadText => k_is)
    (case x4_BadText => k_is)
    (case x5_BadText => k_is)
    (case x6_BadText => k_is)
    (case x7_BadText => k_is)
    (case x8_BadText => k_is)
    (case x9_BadText => k_is)
    (case xa_BadText => k_is)
    (case x0_NarrowError => k_exc)
    (case x1_NarrowError => k_is)
    (case x2_NarrowError => k_is)
    (case x3_NarrowError => k_is)
    (case x4_NarrowError => k_is)
    (case x5_NarrowError => k_is)
    (case x6_NarrowError => k_is)
    (case x7_NarrowError => k_is)
    (case x8_NarrowError => k_is)
    (case x9_NarrowError => k_is)
    (case xa_NarrowError => k_is)
    (case x0_Outside => k_exc)
    (case x1_Outside => k_is)
    (case x2_Outside => k_is)
    (case x3_Outside => k_is)
    (case x4_Outside => k_is)
    (case x5_Outside => k_is)
    (case x6_Outside => k_is)
    (case x7_Outside => k_is)
    (case x8_Outside => k_is)
    (case x9_Outside => k_is)
    (case xa_Outside => k_is)
    (case no_BadText_row => k_is)
    (case s_BadBits_BadBits => first | rfl | k_is)
    (case s_BadBits_BadText => first | rfl | k_is)
    (case s_BadBits_NarrowError => first | rfl | k_is)
    (case s_BadBits_Outside => first | rfl | k_is)
    (case s_BadText_BadBits => first | rfl | k_is)
    (case s_BadText_BadText => first | rfl | k_is)
    (case s_BadText_NarrowError => first | rfl | k_is)
    (case s_BadText_Outside => first | rfl | k_is)
    (case s_NarrowError_BadBits => first | rfl | k_is)
    (case s_NarrowError_BadText => first | rfl | k_is)
    (case s_NarrowError_NarrowError => first | rfl | k_is)
    (case s_NarrowError_Outside => first | rfl | k_is)
    (case s_Outside_BadBits => first | rfl | k_is)
    (case s_Outside_BadText => first | rfl | k_is)
    (case s_Outside_NarrowError => first | rfl | k_is)
    (case s_Outside_Outside => first | rfl | k_is)
    (case xl0 => k_is)
    (case xs0 => k_is)
    (case sm0 => first | ks_is | k_is)
    (case sv0 => k_is)
    (case ss0 => k_is)
    (case sa0 => k_is)
    (case sl0 => k_is)
    (case sk0 => k_is)
    (case et0 => first | rfl | kernel_rfl)
    (case xr0 => first | rfl | kernel_rfl)
    (case sf0 => first | rfl | kernel_rfl)
    (case ef0 => first | rfl | kernel_rfl)
#print axioms PySem.Challenge.cw_narrowingbits_k04_hex_texts_both_ways_holds
