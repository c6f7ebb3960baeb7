import PyProof.Rows.All
import Wide.All
import OpenK.AllK
import Wide.FinOn
import HandS.ForMost
import HandS.ForExc
import HandS.ExcIs
import HandS.IsInst
import HandS.EndTab
import HandS.Style
import HandS.FStr
import HandS.StrMore
import HandS.WideBits
import HandS.Walk
import PyProof.Rows.StrIntSpec
import PyProof.FString3
import PyProof.Rows.FStr
import PySem.Challenge.RW_narrowingbits_k60_cells_laid_out
set_option Elab.async false
set_option maxRecDepth 100000
set_option maxHeartbeats 4000000
namespace NB
open PySem L2
/-! ### the frozen part, the steps -/
/-- from (F, H) to (F', H'): F is what stands still, H the whole; S: the cells that may be written -/
structure Stp (S : Addr → Prop) (F H F' H' : Hp) : Prop where
  ff : Same F F'
  fh : Same F' H'
  fo : ∀ b o, H b = some o → F' b = F b
  keep : ∀ b o, ¬ S b → H b = some o → H' b = some o
  dom : ∀ b o, H b = some o → ∃ o', H' b = some o'
abbrev S0 : Addr → Prop := fun _ => False
abbrev S1 (p : Addr) : Addr → Prop := fun b => b = p
section
variable {S S' : Addr → Prop} {F H F1 H1 F2 H2 : Hp} {p : Addr} {o o' : HO}
theorem Stp.rfl' (h : Same F H) : Stp S F H F H := ⟨Same.refl F, h, fun _ _ _ => rfl, fun _ _ _ e => e, fun _ o e => ⟨o, e⟩⟩
theorem Stp.trans (a : Stp S F H F1 H1) (b : Stp S F1 H1 F2 H2) : Stp S F H F2 H2 :=
  ⟨a.ff.trans b.ff, b.fh, fun c o e => by
    obtain ⟨o', e'⟩ := a.dom c o e
    rw [b.fo c o' e', a.fo c o e], fun c o n e => b.keep c o n (a.keep c o n e), fun c o e => by
    obtain ⟨o', e'⟩ := a.dom c o e
    exact b.dom c o' e'⟩
theorem Stp.sub (i : ∀ b, S b → S' b) (a : Stp S F H F1 H1) : Stp S' F H F1 H1 := ⟨a.ff, a.fh, a.fo, fun b o n e => a.keep b o (fun z => n (i b z)) e, a.dom⟩
theorem Stp.up (a : Stp S0 F H F1 H1) : Stp S F H F1 H1 := a.sub fun _ z => z.elim
theorem Stp.same (a : Stp S0 F H F1 H1) : Same H H1 := fun b o e => a.keep b o (fun z => z) e
/-- a new thing that will never change -/
theorem Stp.new (h : Same F H) (hp : H p = none) : Stp S F H (upd F p o) (upd H p o) := by
  have fp : F p = none := h.free hp
  refine ⟨fun b u e => ?_, fun b u e => ?_, fun b u e => ?_, fun b u _ e => ?_, fun b u e => ⟨u, ?_⟩⟩
  · rw [upd_ne (ne_of_none e fp)]; exact e
  · by_cases q : b = p
    · subst q; rw [upd_same] at e ⊢; exact e
    · rw [upd_ne q] at e ⊢; exact h b u e
  · rw [upd_ne (ne_of_none e hp)]
  · rw [upd_ne (ne_of_none e hp)]; exact e
  · rw [upd_ne (ne_of_none e hp)]; exact e
/-- a new cell -/
theorem Stp.cell (h : Same F H) (hp : H p = none) : Stp S F H F (upd H p o) :=
  ⟨Same.refl F, fun b u e => by rw [upd_ne (ne_of_none (h b u e) hp)]; exact h b u e, fun _ _ _ => rfl, fun b u _ e => by rw [upd_ne (ne_of_none e hp)]; exact e, fun b u e => ⟨u, by rw [upd_ne (ne_of_none e hp)]; exact e⟩⟩
/-- a cell written -/
theorem Stp.wr (h : Same F H) (hs : S p) (fp : F p = none) : Stp S F H F (upd H p o) :=
  ⟨Same.refl F, fun b u e => by
    have n : b ≠ p := fun q => by rw [q, fp] at e; cases e
    rw [upd_ne n]; exact h b u e, fun _ _ _ => rfl, fun b u n e => by
    have q : b ≠ p := fun z => n (z ▸ hs)
    rw [upd_ne q]; exact e, fun b u e => by
    by_cases q : b = p
    · exact ⟨o, by rw [q, upd_same]⟩
    · exact ⟨u, by rw [upd_ne q]; exact e⟩⟩
/-- a cell that was made here is written -/
theorem Stp.wrNew (a : Stp S F H F1 H1) (hn : H p = none) (fp : F1 p = none) : Stp S F H F1 (upd H1 p o) :=
  ⟨a.ff, fun b u e => by
    have n : b ≠ p := fun q => by rw [q, fp] at e; cases e
    rw [upd_ne n]; exact a.fh b u e, a.fo, fun b u n e => by
    rw [upd_ne (ne_of_none e hn)]; exact a.keep b u n e, fun b u e => by
    rw [upd_ne (ne_of_none e hn)]; exact a.dom b u e⟩
/-- a cell that was made here stands still from now on -/
theorem Stp.freeze (a : Stp S F H F1 H1) (hn : H p = none) (hp : H1 p = some o) (fp : F1 p = none) : Stp S F H (upd F1 p o) H1 :=
  ⟨fun b u e => by
    have e1 := a.ff b u e
    rw [upd_ne (ne_of_none e1 fp)]; exact e1, fun b u e => by
    by_cases q : b = p
    · subst q; rw [upd_same] at e; cases e; exact hp
    · rw [upd_ne q] at e; exact a.fh b u e, fun b u e => by
    rw [upd_ne (ne_of_none e hn)]; exact a.fo b u e, a.keep, a.dom⟩
theorem Stp.free (a : Stp S F H F1 H1) (hp : H p = some o) (fp : F p = none) : F1 p = none := (a.fo p o hp).trans fp
end
/-! ### a def that stands, with its promise -/
structure Fn (P : Program) (w : World) (K : PySem.W.Frag) (mg : Str → Option Value) (base : Heap) (CX : CXT) (k : Nat) (nm : Str) (st : Stmt) (f : Addr) (fd : FuncData) (ps : List Str) (sp : Sp) : Prop where
  G : FnOk P w K mg base CX k f fd ps sp
  m : mg nm = some (.ref f)
  kp : PySem.W.keepIn K (.ref f) = true
  b : Binds K fd ps []
  F : Fun K nm nm st f fd
/-! ### keywords -/
def gK {α : Type} (n m : Nat) (us ws : List α) : List α := if us.length = n ∧ ws.length = m then us ++ ws else []
theorem _root_.L2.Fun.kbinds {K : PySem.W.Frag} {x qual : Str} {st : Stmt} {f : Addr} {fd : FuncData} {ps : List Str} (F : Fun K x qual st f fd) (n : Nat) (ks : List Str) (hn : 0 < ps.length)
    (h : ∀ (kV doc pm : Value) (an : Option Addr) (cdv ct : Value) (us ws : List Value), us.length = n → ws.length = ks.length → bindArgs (PySem.W.fnOf x qual (defArgs st) (defBody st) (defScope st) .none kV doc pm an cdv ct) ⟨us, ks.zip ws⟩ = pure (ps.zip (us ++ ws))) :
    KBinds K fd ps ks (gK n ks.length) (gK n ks.length) := by
  obtain ⟨oc, od, kV, doc, pm, an, cdv, ct, osl, rfl, lk, hcd⟩ := F.ex
  refine ⟨fun s us ws _ hl => ?_, fun {vs us zs ws} r rz => ?_⟩
  · by_cases c : us.length = n ∧ ws.length = ks.length
    · have e : gK n ks.length us ws = us ++ ws := if_pos c
      rw [e]
      exact .of_eq (h kV doc pm an cdv ct us ws c.1 c.2)
    · have e : gK n ks.length us ws = [] := if_neg c
      rw [e] at hl
      exact absurd hl (by show ¬ 0 = ps.length; omega)
  · unfold gK
    by_cases c : us.length = n ∧ ws.length = ks.length
    · have c' : vs.length = n ∧ zs.length = ks.length := ⟨r.length.trans c.1, rz.length.trans c.2⟩
      rw [if_pos c, if_pos c']
      exact r.append rz
    · have c' : ¬ (vs.length = n ∧ zs.length = ks.length) := fun z => c ⟨r.length.symm.trans z.1, rz.length.symm.trans z.2⟩
      rw [if_neg c, if_neg c']
      exact .nil
def tCallK0 (sp : Sp) (gV : List V → List V → List V) (E : XK) (tk : TA) : TE := fun σ H Q => tk σ H fun zs H2 => sp (gV [] zs) H2 Q E
theorem pe_callK0 {X : Cx} {CX : CXT} {k : Nat} {f : Addr} {fd : FuncData} {ps ks : List Str} {sp : Sp} {E : XK} {x : Str} {p pos : Pos} {kws : List Keyword} {tk : TA} {g : List Value → List Value → List Value} {gV : List V → List V → List V}
    (F : FnOk X.prog X.w X.K X.mg X.base CX k f fd ps sp) (hr : Room k X.A) (hg : Gl X x) (hm : X.mg x = some (.ref f)) (hk : PySem.W.keepIn X.K (.ref f) = true) (hb : KBinds X.K fd ps ks g gV) (hx : Passes CX X E) (hkw : PK X kws tk)
    (hall : (backToKw pos (keywordEach kws X.env)).all (·.1.isSome) = true := by rfl) (hks : (backToKw pos (keywordEach kws X.env)).filterMap (·.1) = ks := by rfl) (hdb : (x == ("__debug__" : Str)) = false := by decide)
    (hpl : ((backTo pos (starEach [] X.env)).any (·.1) || (backToKw pos (keywordEach kws X.env)).any (·.1.isNone)) = false := by rfl) : PE X (.Call (.Name x p) [] kws pos) (tCallK0 sp gV E tk) := by
  refine ⟨fun pins s σ H Q I h => ?_⟩
  refine wpAny_Call_Name_kw (ld_glob I hg hm ?_ hdb)
  refine PySem.W.callWith_KW0 (h₀ := X.base) I.ok.mod.kin hk hall ?_ hpl
  refine thn (hkw.run pos pins s σ H _ I h) fun ws s2 ⟨zs, H2, I2, rz, q2⟩ => ⟨I2.kIn, ?_⟩
  rw [hks]
  exact run_fnk F hr hb hx I2 .nil rz q2
def SpN (n : Nat) (s : Sp) : Sp := fun vs H Q E => vs.length = n ∧ s vs H Q E
/-! ### rules under names -/
def rInt1 : List V → Hp → VK → Prop := fun xs H Q => (∃ i, xs = [.int i] ∧ Q (.int i) H) ∨ ∃ k, xs = [.bl k] ∧ Q (.int (if k then 1 else 0)) H
def rMax2 : List V → Hp → VK → Prop := fun xs H Q => ∃ i j, xs = [.int i, .int j] ∧ Q (.int (if j > i then j else i)) H
def rMin2 : List V → Hp → VK → Prop := fun xs H Q => ∃ i j, xs = [.int i, .int j] ∧ Q (.int (if j < i then j else i)) H
def rLen (K : PySem.W.Frag) : List V → Hp → VK → Prop := fun xs H Q => ∃ p ys, xs = [.ref p] ∧ (SqL K H p ys ∨ SqT K H p ys) ∧ Q (.int ys.length) H
section
variable {X : Cx}
theorem c_int1 : CallR X (.type "int") rInt1 := call_int1
theorem c_max2 (hc : X.calm = true) : CallR X (.builtin "max") rMax2 := call_max2 hc
theorem c_min2 (hc : X.calm = true) : CallR X (.builtin "min") rMin2 := call_min2 hc
theorem c_len (K : PySem.W.Frag) (e : X.K = K) : CallR X (.builtin "len") (rLen K) := by subst e; exact call_len_seq
theorem c_isi (K : PySem.W.Frag) (e : X.K = K) : CallR X (.builtin "isinstance") (rIsi K) := by subst e; exact call_isi
theorem i_list (K : PySem.W.Frag) (e : X.K = K) : IxR X (rIxL K) := by subst e; exact ix_list
theorem i_tup (K : PySem.W.Frag) (e : X.K = K) : IxR X (rIxT K) := by subst e; exact ix_tup
theorem o_and1 : OpR X (binaryOp .BitAnd) (fun x y H Q => ∃ i : Int, x = .int i ∧ y = .int 1 ∧ Q (.int (i % 2)) H) := by
  intro pins s σ H x y v u Q I rx ry h
  obtain ⟨i, rfl, rfl, q⟩ := h
  exact op_andM pins s σ H _ _ v u Q I rx ry ⟨i, 1, rfl, rfl, by simpa using q⟩
theorem l_list (K : PySem.W.Frag) (e : X.K = K) : SlR X (rSlL K) := by subst e; exact sl_list
theorem o_in (K : PySem.W.Frag) (e : X.K = K) : OpR X (compareOp .In) (rIn K false) := by subst e; exact op_in_seq
theorem o_notIn (K : PySem.W.Frag) (e : X.K = K) : OpR X (compareOp .NotIn) (rIn K true) := by subst e; exact op_notIn_seq
def rDivmod : List V → Hp → VK → Prop := fun xs H Q => ∃ i j, xs = [.int i, .int j] ∧ CDiv i j ∧ ∀ p, H p = none → Q (.ref p) (upd H p (.tup [.int (i / j), .int (i % j)]))
theorem c_divmod : CallR X (.builtin "divmod") rDivmod := call_divmod
theorem o_eqD (K : PySem.W.Frag) (e : X.K = K) (hu : X.A.units + 64 < cLine) : OpR X (compareOp .Eq) (rEqD K) := by subst e; exact op_eqD hu
theorem o_neD (K : PySem.W.Frag) (e : X.K = K) (hu : X.A.units + 64 < cLine) : OpR X (compareOp .NotEq) (rNeD K) := by subst e; exact op_neD hu
end
theorem sz {n : Nat} (h : n ≤ 100000) : n ≤ sizeLine := Nat.le_trans h (by decide)
/-! ### readings, step by step -/
section
variable {X : Cx} {K : PySem.W.Frag} {σ : L2.St} {H F : Hp} {Q : VK} {i : Nat} {v x y : V} {ta tb : TE} {r : R2}
theorem s_var (h : σ[i]? = some (some v)) (q : Q v H) : tVar i σ H Q := ⟨v, h, q⟩
theorem s_c (q : Q v H) : tC v σ H Q := q
theorem s_op (h : ta σ H fun x H1 => tb σ H1 fun y H2 => r x y H2 Q) : tOp r ta tb σ H Q := h
theorem s_I0 {g : Int → Int → V} {i j : Int} (q : Q (g i j) H) : rI0 g (.int i) (.int j) H Q := ⟨i, j, rfl, rfl, q⟩
theorem s_I {C : Int → Int → Prop} {g : Int → Int → V} {i j : Int} (c : C i j) (q : Q (g i j) H) : rI C g (.int i) (.int j) H Q := ⟨i, j, rfl, rfl, c, q⟩
theorem s_eq (h : scal x y = true) (q : Q (.bl (decide (x = y))) H) : rEq x y H Q := ⟨h, q⟩
theorem dec_int (i j : Int) : decide (V.int i = V.int j) = decide (i = j) := by by_cases h : i = j <;> simp [h]
theorem dec_str (i j : Str) : decide (V.str i = V.str j) = decide (i = j) := by by_cases h : i = j <;> simp [h]
theorem s_eqI {i j : Int} (q : Q (.bl (decide (i = j))) H) : rEq (.int i) (.int j) H Q := ⟨rfl, by rw [dec_int]; exact q⟩
theorem s_neI {i j : Int} (q : Q (.bl (!decide (i = j))) H) : rNe (.int i) (.int j) H Q := ⟨rfl, by rw [dec_int]; exact q⟩
theorem s_eqS {i j : Str} (q : Q (.bl (decide (i = j))) H) : rEq (.str i) (.str j) H Q := ⟨rfl, by rw [dec_str]; exact q⟩
theorem s_neS {i j : Str} (q : Q (.bl (!decide (i = j))) H) : rNe (.str i) (.str j) H Q := ⟨rfl, by rw [dec_str]; exact q⟩
theorem s_chain {r' : R2} {tc : TE} (h : ta σ H fun x H1 => tb σ H1 fun y H2 => r x y H2 fun z H3 => ∃ k, z = .bl k ∧ if k = true then tc σ H3 fun u H4 => r' y u H4 Q else Q (.bl false) H3) : tChain r r' ta tb tc σ H Q := by
  unfold tChain; exact h
theorem s_par3 {i j l : Nat} {ta : TA} {D : Ends} (h : ta σ H fun vs H1 => ∃ u v w, vs = [u, v, w] ∧ D.nx (((σ.set i (some u)).set j (some v)).set l (some w)) H1) : tPar3 i j l ta D σ H := h
theorem s_par {i j : Nat} {ta : TA} {D : Ends} (h : ta σ H fun vs H1 => ∃ v w, vs = [v, w] ∧ D.nx ((σ.set i (some v)).set j (some w)) H1) : tPar i j ta D σ H := h
theorem s_v2 {x y : V} {R : V → V → Prop} (h : R x y) : ∃ a b, [x, y] = [a, b] ∧ R a b := ⟨x, y, rfl, h⟩
theorem s_v3 {x y z : V} {R : V → V → V → Prop} (h : R x y z) : ∃ a b c, [x, y, z] = [a, b, c] ∧ R a b c := ⟨x, y, z, rfl, h⟩
theorem s_tup {t : TA} (h : t σ H fun xs H1 => xs.length ≤ sizeLine ∧ ∀ p, H1 p = none → Q (.ref p) (upd H1 p (.tup xs))) : tTup t σ H Q := h
theorem s_lst {t : TA} (h : t σ H fun xs H1 => xs.length ≤ sizeLine ∧ ∀ p, H1 p = none → Q (.ref p) (upd H1 p (.lst xs))) : tLst t σ H Q := h
theorem s_nil {Q : List V → Hp → Prop} (q : Q [] H) : tNil σ H Q := q
theorem s_cons {t : TA} {Q : List V → Hp → Prop} (h : ta σ H fun x H1 => t σ H1 fun xs H2 => Q (x :: xs) H2) : tCons ta t σ H Q := h
theorem s_call {sp : Sp} {dvs : List V} {E : XK} {t : TA} (h : t σ H fun vs H1 => sp (vs ++ dvs) H1 Q E) : tCall sp dvs E t σ H Q := h
theorem s_callK0 {sp : Sp} {gV : List V → List V → List V} {E : XK} {t : TA} (h : t σ H fun zs H1 => sp (gV [] zs) H1 Q E) : tCallK0 sp gV E t σ H Q := h
theorem s_callK {sp : Sp} {gV : List V → List V → List V} {E : XK} {t tk : TA} (h : t σ H fun vs H1 => tk σ H1 fun zs H2 => sp (gV vs zs) H2 Q E) : tCallK sp gV E t tk σ H Q := h
theorem s_bits (h : ta σ H fun x H1 => ∃ i, x = .int i ∧ Q (.int (Builtin.Int.intBits i : Nat)) H1) : tBits ta σ H Q := h
theorem s_i {i : Int} {R : Int → Prop} (h : R i) : ∃ j, V.int i = V.int j ∧ R j := ⟨i, rfl, h⟩
theorem s_bm {T : String} {r : V → List V → Hp → VK → Prop} {to : TE} {t : TA} (h : to σ H fun x H1 => tyV K T x H1 ∧ t σ H1 fun xs H2 => r x xs H2 Q) : tBM K T r to t σ H Q := h
theorem s_bm0 {T : String} {r : V → List V → Hp → VK → Prop} {to : TE} (h : to σ H fun x H1 => tyV K T x H1 ∧ r x [] H1 Q) : tBM0 K T r to σ H Q := h
theorem s_m1 {r : V → List V → Hp → VK → Prop} (h : ta σ H fun x H1 => (∃ a, x = .str a) ∧ tb σ H1 fun y H2 => r x [y] H2 Q) : tM1 r ta tb σ H Q := h
theorem s_cb {r : List V → Hp → VK → Prop} {t : TA} (h : t σ H fun vs H1 => r vs H1 Q) : tCB r t σ H Q := h
theorem s_test {Q : Bool → Hp → Prop} {t : TE} (h : t σ H fun x H' => ∃ k, x = .bl k ∧ Q k H') : tTest t σ H Q := h
theorem s_tB {Q : Bool → Hp → Prop} {t : TE} (h : t σ H fun x H' => ∃ k, x = .bl k ∧ Q k H') : tB t σ H Q := h
theorem s_bl {k : Bool} {Q : Bool → Hp → Prop} (q : Q k H) : ∃ k', V.bl k = .bl k' ∧ Q k' H := ⟨k, rfl, q⟩
theorem s_not {Q : Bool → Hp → Prop} {t : TT} (h : t σ H fun c H1 => Q (!c) H1) : tNot t σ H Q := h
theorem s_and {Q : Bool → Hp → Prop} {t u : TT} (h : t σ H fun c H1 => if c = true then u σ H1 Q else Q false H1) : tAnd t u σ H Q := h
theorem s_or {Q : Bool → Hp → Prop} {t u : TT} (h : t σ H fun c H1 => if c = true then Q true H1 else u σ H1 Q) : tOr t u σ H Q := h
theorem s_un {r : V → Hp → VK → Prop} (h : ta σ H fun x H1 => r x H1 Q) : tUn r ta σ H Q := h
theorem s_U {g : Int → V} {i : Int} (q : Q (g i) H) : rU g (.int i) H Q := ⟨i, rfl, q⟩
theorem s_int1 {i : Int} (q : Q (.int i) H) : rInt1 [.int i] H Q := .inl ⟨i, rfl, q⟩
theorem s_int1b {b : Bool} (q : Q (.int (if b then 1 else 0)) H) : rInt1 [.bl b] H Q := .inr ⟨b, rfl, q⟩
theorem s_ixL {p : Addr} {xs : List V} {i : Int} (h : SqL K H p xs) (a : atI xs i = some v) (q : Q v H) : rIxL K (.ref p) (.int i) H Q := ⟨p, xs, i, v, rfl, rfl, h, a, q⟩
theorem s_ixT {p : Addr} {xs : List V} {i : Int} (h : SqT K H p xs) (a : atI xs i = some v) (q : Q v H) : rIxT K (.ref p) (.int i) H Q := ⟨p, xs, i, v, rfl, rfl, h, a, q⟩
theorem s_len {p : Addr} {xs : List V} (h : SqL K H p xs) (q : Q (.int xs.length) H) : rLen K [V.ref p] H Q := ⟨p, xs, rfl, .inl h, q⟩
theorem s_lenT {p : Addr} {xs : List V} (h : SqT K H p xs) (q : Q (.int xs.length) H) : rLen K [V.ref p] H Q := ⟨p, xs, rfl, .inr h, q⟩
theorem s_max2 {i j : Int} (q : Q (.int (if j > i then j else i)) H) : rMax2 [.int i, .int j] H Q := ⟨i, j, rfl, q⟩
theorem s_min2 {i j : Int} (q : Q (.int (if j < i then j else i)) H) : rMin2 [.int i, .int j] H Q := ⟨i, j, rfl, q⟩
theorem s_isi {v : V} {n : String} {t : String} {b : Bool} (h : TyX K H v (.type t)) (e : kitB t n = some b) (q : Q (.bl b) H) : rIsi K [v, .ty n] H Q := ⟨v, .ty n, .type t, .type n, b, rfl, .ty n, h, kit_ty e, q⟩
theorem s_eqD {d e : PyData} (h1 : Dp K H x d) (h2 : Dp K H y e) (s1 : SeqAt.shaped d = true) (s2 : SeqAt.shaped e = true) (q : Q (.bl (PyData.eqv d e)) H) : rEqD K x y H Q := ⟨d, e, h1, h2, s1, s2, q⟩
theorem s_andV {c : Bool} (h : if c = true then tb σ H Q else Q (.bl false) H) : ∃ c', V.bl c = .bl c' ∧ if c' = true then tb σ H Q else Q (.bl false) H := ⟨c, rfl, h⟩
theorem s_andV0 (h : ta σ H fun x H1 => ∃ c, x = .bl c ∧ if c = true then tb σ H1 Q else Q (.bl false) H1) : tAndV ta tb σ H Q := h
theorem s_orV0 (h : ta σ H fun x H1 => ∃ c, x = .bl c ∧ if c = true then Q (.bl true) H1 else tb σ H1 Q) : tOrV ta tb σ H Q := h
theorem s_notV (h : ta σ H fun x H1 => ∃ c, x = .bl c ∧ Q (.bl (!c)) H1) : tNotV ta σ H Q := h
theorem s_b {c : Bool} {R : Bool → Prop} (h : R c) : ∃ c', V.bl c = V.bl c' ∧ R c' := ⟨c, rfl, h⟩
theorem s_gtup {n : Nat} {t : TGs} {a : Addr} {xs : List V} {R : L2.St → Hp → Prop} (h : SqT K H a xs) (e : xs.length = n) (q : t xs σ H R) : gTup K n t (.ref a) σ H R := ⟨a, xs, rfl, h, e, q⟩
theorem s_gcons {t : TG} {u : TGs} {r : List V} {R : L2.St → Hp → Prop} (q : t v σ H fun σ' H' => u r σ' H' R) : gCons t u (v :: r) σ H R := ⟨v, r, rfl, q⟩
theorem s_gnil {R : L2.St → Hp → Prop} (q : R σ H) : gNil [] σ H R := ⟨rfl, q⟩
theorem s_gsub {to ti : TE} {t : TSet} {R : L2.St → Hp → Prop} (h : to σ H fun o H1 => ti σ H1 fun i H2 => t o i v H2 fun H3 => R σ H3) : gSub to ti t v σ H R := h
theorem s_setL {p : Addr} {xs : List V} {i : Int} {j : Nat} {R : Hp → Prop} (h : H p = some (.lst xs)) (e : ixN xs.length i = some j) (q : R (upd H p (.lst (xs.set j v)))) : rSetL (.ref p) (.int i) v H R := ⟨p, xs, i, j, rfl, rfl, h, e, q⟩
theorem s_ifE {t : TT} (h : t σ H fun c H1 => if c = true then ta σ H1 Q else tb σ H1 Q) : tIf t ta tb σ H Q := h
variable {D : Ends} {t u : TS}
theorem s_seq (h : t { D with nx := u D } σ H) : tSeq t u D σ H := h
theorem s_next (h : D.nx σ H) : tNext D σ H := h
theorem s_asg {g : TG} (h : ta σ H fun x H1 => g x σ H1 D.nx) : tAsg ta g D σ H := h
theorem s_gname {R : L2.St → Hp → Prop} (h : R (σ.set i (some v)) H) : gName i v σ H R := h
theorem s_ret (h : ta σ H D.rt) : tRet ta D σ H := h
theorem s_if {c : TT} (h : c σ H fun b H1 => if b = true then t D σ H1 else u D σ H1) : tIfS c t u D σ H := h
theorem s_drop (h : ta σ H fun _ H1 => D.nx σ H1) : tDrop ta D σ H := h
/-- a loop over what stands -/
def forT (J : It) (g : TG) (tb : TS) : TS := tFor (fun _ H R => R J H) g tb
theorem s_for {wi : TI} {g : TG} {tb : TS} (h : wi σ H fun J H1 => forT J g tb D σ H1) : tFor wi g tb D σ H := h
theorem s_iR1 {ta : TA} {R : It → Hp → Prop} (h : ta σ H fun vs H1 => ∃ n : Int, vs = [.int n] ∧ -(2 ^ 62) ≤ n ∧ n < 2 ^ 62 ∧ R (Itr 0 n.toNat) H1) : iRng1 ta σ H R := h
theorem s_iR2 {ta : TA} {R : It → Hp → Prop} (h : ta σ H fun vs H1 => ∃ m n : Int, vs = [.int m, .int n] ∧ (-(2 ^ 62) ≤ m ∧ m < 2 ^ 62 ∧ -(2 ^ 62) ≤ n ∧ n < 2 ^ 62) ∧ R (Itr m (n - m).toNat) H1) : iRng2 ta σ H R := h
theorem s_iL {R : It → Hp → Prop} (h : ta σ H fun x H1 => ∃ a, x = .ref a ∧ (∃ xs, SqL K H1 a xs) ∧ R (Itl K a) H1) : iList K ta σ H R := h
theorem s_iT {R : It → Hp → Prop} (h : ta σ H fun x H1 => ∃ a, x = .ref a ∧ (∃ xs, SqT K H1 a xs) ∧ R (Itt K a) H1) : iTup K ta σ H R := h
theorem s_iS {R : It → Hp → Prop} (h : ta σ H fun x H1 => ∃ z, x = .str z ∧ R (Its z) H1) : iStr ta σ H R := h
theorem forW {J : It} {n : Nat} {G : Hp → Prop} {Y : Nat → Hp → V → Hp → Prop} {g : TG} {tb : TS} (w : Walk J n G Y) (Pv : Nat → L2.St → Hp → Prop) (h0 : Pv 0 σ H) (hG : ∀ i σ H, i ≤ n → Pv i σ H → G H)
    (hs : ∀ i x σ H H', i < n → Pv i σ H → Y i H x H' → g x σ H' fun σ2 H2 => tb { D with nx := Pv (i + 1), ct := Pv (i + 1), bk := D.nx } σ2 H2) (hd : ∀ σ H, Pv n σ H → D.nx σ H) : forT J g tb D σ H := for_it w Pv h0 hG hs hd
theorem forR {lo : Int} {n : Nat} {g : TG} {tb : TS} (Pv : Nat → L2.St → Hp → Prop) (h0 : Pv 0 σ H) (hs : ∀ i σ H, i < n → Pv i σ H → g (.int (lo + i)) σ H fun σ2 H2 => tb { D with nx := Pv (i + 1), ct := Pv (i + 1), bk := D.nx } σ2 H2)
    (hd : ∀ σ H, Pv n σ H → D.nx σ H) : forT (Itr lo n) g tb D σ H := for_range Pv h0 hs hd
theorem forL {a : Addr} {xs : List V} {g : TG} {tb : TS} (Pv : Nat → L2.St → Hp → Prop) (h0 : Pv 0 σ H) (hl : ∀ i σ H, i ≤ xs.length → Pv i σ H → SqL K H a xs)
    (hs : ∀ i x σ H, xs[i]? = some x → Pv i σ H → g x σ H fun σ2 H2 => tb { D with nx := Pv (i + 1), ct := Pv (i + 1), bk := D.nx } σ2 H2) (hd : ∀ σ H, Pv xs.length σ H → D.nx σ H) : forT (Itl K a) g tb D σ H := for_list Pv h0 hl hs hd
/-- a comprehension over what stands -/
def lcT (J : It) (g : TG) (tt : TT) (te : TE) (vs : List Nat) : TE := tLc (fun _ H R => R J H) g tt te vs
theorem s_lc {wi : TI} {g : TG} {tt : TT} {te : TE} {vs : List Nat} (h : wi σ H fun J H1 => lcT J g tt te vs σ H1 Q) : tLc wi g tt te vs σ H Q := h
theorem s_sl {r : V → Option Int → Option Int → Hp → VK → Prop} {tl th : TO} (h : ta σ H fun x H1 => tl σ H1 fun l H2 => th σ H2 fun u H3 => r x l u H3 Q) : tSl r ta tl th σ H Q := h
theorem s_part {R : Option Int → Hp → Prop} (h : ta σ H fun x H1 => ∃ i, x = .int i ∧ R (some i) H1) : tPart ta σ H R := h
theorem s_nopart {R : Option Int → Hp → Prop} (h : R none H) : tNoPart σ H R := h
theorem s_slL {p : Addr} {xs : List V} {l u : Option Int} (h : SqL K H p xs) (q : ∀ p', H p' = none → Q (.ref p') (upd H p' (.lst (cutV xs l u)))) : rSlL K (.ref p) l u H Q := ⟨p, xs, rfl, h, q⟩
theorem s_iR3 {ta : TA} {R : It → Hp → Prop} (h : ta σ H fun vs H1 => ∃ (i j c : Int) (n : Nat), vs = [.int i, .int j, .int c] ∧ RgC i j c n ∧ R (Itc i c n) H1) : iRng3 ta σ H R := h
theorem rgc_up {L k : Int} (hL : 0 ≤ L) (hL2 : L < 2 ^ 62) (hk : 0 < k) (hk2 : k < 1073741824) : RgC 0 L k ((L + k - 1) / k).toNat := by
  have e : Builtin.Range.rangeSize 0 L k = (((L + k - 1) / k).toNat : Int) := by
    unfold Builtin.Range.rangeSize
    rw [if_pos hk]
    have h0 : 0 ≤ (L + k - 1) / k := Int.ediv_nonneg (by omega) (by omega)
    split
    · rw [show L + k - 1 = (L - 0 - 1) + k by omega, Int.add_ediv_of_dvd_right (Int.dvd_refl k), Int.ediv_self (by omega)]
      have : 0 ≤ (L - 0 - 1) / k := Int.ediv_nonneg (by omega) (by omega)
      omega
    · have : L = 0 := by omega
      subst this
      rw [Int.ediv_eq_zero_of_lt (by omega) (by omega)]; rfl
  refine ⟨by omega, by omega, ?_, e⟩
  have hb : (L + k - 1) / k ≤ L + k - 1 := Int.ediv_le_self _ (by omega)
  unfold Builtin.Range.small
  rw [e]
  simp only [Builtin.Range.rangeFitsLong, Bool.and_eq_true, Bool.or_eq_true, decide_eq_true_eq, beq_iff_eq, show (k > 0) = True from eq_true hk, if_true]
  omega
theorem s_wipe {σ2 : L2.St} {vs : List Nat} {R : Prop} (h : wipe σ2 vs = wipe σ vs) (q : R) : wipe σ2 vs = wipe σ vs ∧ R := ⟨h, q⟩
theorem s_yes {Q : Bool → Hp → Prop} (q : Q true H) : tYes σ H Q := q
/-- within a comprehension: what has been made so far stands at D -/
structure LcP (S : Addr → Prop) (F H : Hp) (Dd : Addr) (R : Nat → List V → Hp → Hp → Prop) (i : Nat) (Hc : Hp) : Prop where
  ex : ∃ Fc acc, Stp S F H Fc Hc ∧ Fc Dd = none ∧ Hc Dd = some (.lst acc) ∧ acc.length ≤ i ∧ R i acc Fc Hc
  fresh : H Dd = none
theorem lcW {J : It} {n : Nat} {G : Hp → Prop} {Y : Nat → Hp → V → Hp → Prop} {g : TG} {tt : TT} {te : TE} {vs : List Nat} (w : Walk J n G Y) (S : Addr → Prop) (hF : Same F H) (hS : ∀ b, S b → ∃ o, H b = some o)
    (hG : ∀ F1 H1, Stp S F H F1 H1 → G H1) (R : Nat → List V → Hp → Hp → Prop) (hR : ∀ i acc F1 H1 d o, ¬ S d → F1 d = none → Stp S F H F1 H1 → R i acc F1 H1 → R i acc F1 (upd H1 d o)) (h0 : R 0 [] F H)
    (hs : ∀ i x acc d F1 H1 H2, i < n → Y i H1 x H2 → H d = none → ¬ S d → Stp S F H F1 H1 → F1 d = none → H1 d = some (.lst acc) → acc.length ≤ i → R i acc F1 H1 → g x (wipe σ vs) H2 fun σ2 H3 => wipe σ2 vs = wipe σ vs ∧ tt σ2 H3 fun b H4 =>
      if b = true then te σ2 H4 fun y H5 => ∃ acc', H5 d = some (.lst acc') ∧ acc'.length < sizeLine ∧ LcP S F H d R (i + 1) (upd H5 d (.lst (acc' ++ [y]))) else LcP S F H d R (i + 1) H4)
    (hd : ∀ d acc F0 F1 H1, Stp S F H F0 H1 → H d = none → F0 d = none → F1 = upd F0 d (.lst acc) → Stp S F H F1 H1 → acc.length ≤ n → R n acc F0 H1 → Q (.ref d) H1) : lcT J g tt te vs σ H Q := by
  intro d hd0
  have nS : ¬ S d := fun z => by
    obtain ⟨o, e⟩ := hS d z
    rw [hd0] at e; cases e
  refine lc_it w (LcP S F H d R) ⟨⟨F, [], Stp.cell hF hd0, hF.free hd0, upd_same, Nat.le_refl _, hR 0 [] F H d _ nS (hF.free hd0) (.rfl' hF) h0⟩, hd0⟩ (fun i H1 _ p => ?_) (fun i x H1 H2 hi p y => ?_) (fun H1 p => ?_)
  · obtain ⟨⟨Fc, acc, st, _⟩, _⟩ := p
    exact hG _ _ st
  · obtain ⟨⟨Fc, acc, st, f0, e, hl, r⟩, _⟩ := p
    exact hs i x acc d Fc H1 H2 hi y hd0 nS st f0 e hl r
  · obtain ⟨⟨Fc, acc, st, f0, e, hl, r⟩, _⟩ := p
    exact hd d acc Fc _ H1 st hd0 f0 rfl (st.freeze hd0 e f0) hl r
theorem lc_end {S : Addr → Prop} {R : Nat → List V → Hp → Hp → Prop} {i : Nat} {acc : List V} {d : Addr} {F1 H1 F4 H4 : Hp} {y : V} (hN : H d = none) (nS : ¬ S d) (st : Stp S F H F1 H1) (f0 : F1 d = none) (e : H1 d = some (.lst acc)) (hl : acc.length ≤ i) (hi : i < 100000)
    (s4 : Stp S F1 H1 F4 H4) (r : R (i + 1) (acc ++ [y]) F4 (upd H4 d (.lst (acc ++ [y])))) : ∃ acc', H4 d = some (.lst acc') ∧ acc'.length < sizeLine ∧ LcP S F H d R (i + 1) (upd H4 d (.lst (acc' ++ [y]))) :=
  ⟨acc, s4.keep _ _ nS e, Nat.lt_of_lt_of_le (Nat.lt_of_le_of_lt hl hi) (by decide), ⟨⟨F4, acc ++ [y], (st.trans s4).wrNew hN ((s4.fo _ _ e).trans f0), (s4.fo _ _ e).trans f0, upd_same, by simp; omega, r⟩, hN⟩⟩
theorem lc_skip {S : Addr → Prop} {R : Nat → List V → Hp → Hp → Prop} {i : Nat} {acc : List V} {d : Addr} {F1 H1 F4 H4 : Hp} (hN : H d = none) (nS : ¬ S d) (st : Stp S F H F1 H1) (f0 : F1 d = none) (e : H1 d = some (.lst acc)) (hl : acc.length ≤ i)
    (s4 : Stp S F1 H1 F4 H4) (r : R (i + 1) acc F4 H4) : LcP S F H d R (i + 1) H4 := ⟨⟨F4, acc, st.trans s4, (s4.fo _ _ e).trans f0, s4.keep _ _ nS e, by omega, r⟩, hN⟩
theorem ifd {p A B : Prop} [Decidable p] (a : p → A) (b : ¬ p → B) : if decide p = true then A else B := by
  by_cases h : p
  · rw [if_pos (decide_eq_true h)]; exact a h
  · rw [if_neg (by simp [h])]; exact b h
theorem itNF {A B : Prop} (h : B) : if (!true) = true then A else B := h
theorem itNT {A B : Prop} (h : A) : if (!false) = true then A else B := h
theorem ifn {p A B : Prop} [Decidable p] (a : p → B) (b : ¬ p → A) : if (!decide p) = true then A else B := by
  by_cases h : p
  · rw [if_neg (by simp [h])]; exact a h
  · rw [if_pos (by simp [h])]; exact b h
end
theorem eqv_ints (u v : Int) : PyData.eqv (.tuple [.int u, .int v]) (.tuple [.int u, .int v]) = true := by simp [PyData.eqv, PyData.eqvAll]
/-! ### tests that may be weakened (for while) -/
def MonE (t : TE) : Prop := ∀ σ H (Q Q' : VK), (∀ v H1, Q v H1 → Q' v H1) → t σ H Q → t σ H Q'
def MonT (t : TT) : Prop := ∀ σ H (Q Q' : Bool → Hp → Prop), (∀ b H1, Q b H1 → Q' b H1) → t σ H Q → t σ H Q'
def MonA (t : TA) : Prop := ∀ σ H (Q Q' : List V → Hp → Prop), (∀ vs H1, Q vs H1 → Q' vs H1) → t σ H Q → t σ H Q'
def MonR (r : R2) : Prop := ∀ x y H (Q Q' : VK), (∀ v H1, Q v H1 → Q' v H1) → r x y H Q → r x y H Q'
theorem mon_var {i : Nat} : MonE (tVar i) := fun _ _ _ _ h ⟨v, e, q⟩ => ⟨v, e, h _ _ q⟩
theorem mon_c {v : V} : MonE (tC v) := fun _ _ _ _ h q => h _ _ q
theorem mon_op {r : R2} {a b : TE} (hr : MonR r) (ha : MonE a) (hb : MonE b) : MonE (tOp r a b) := fun σ _ _ _ h q => ha _ _ _ _ (fun x H1 q1 => hb _ _ _ _ (fun y H2 q2 => hr _ _ _ _ _ h q2) q1) q
theorem mon_I0 {g : Int → Int → V} : MonR (rI0 g) := fun _ _ _ _ _ h ⟨i, j, e1, e2, q⟩ => ⟨i, j, e1, e2, h _ _ q⟩
theorem mon_I {C : Int → Int → Prop} {g : Int → Int → V} : MonR (rI C g) := fun _ _ _ _ _ h ⟨i, j, e1, e2, c, q⟩ => ⟨i, j, e1, e2, c, h _ _ q⟩
theorem mon_eq : MonR rEq := fun _ _ _ _ _ h ⟨e, q⟩ => ⟨e, h _ _ q⟩
theorem mon_ne : MonR rNe := fun _ _ _ _ _ h ⟨e, q⟩ => ⟨e, h _ _ q⟩
theorem mon_ixL {K : PySem.W.Frag} : MonR (rIxL K) := fun _ _ _ _ _ h ⟨p, xs, i, v, e1, e2, s, a, q⟩ => ⟨p, xs, i, v, e1, e2, s, a, h _ _ q⟩
theorem mon_nil : MonA tNil := fun _ _ _ _ h q => h _ _ q
theorem mon_cons {a : TE} {t : TA} (ha : MonE a) (ht : MonA t) : MonA (tCons a t) := fun σ _ _ _ h q => ha _ _ _ _ (fun x H1 q1 => ht _ _ _ _ (fun xs H2 q2 => h _ _ q2) q1) q
theorem mon_len {K : PySem.W.Frag} {t : TA} (ht : MonA t) : MonE (tCB (rLen K) t) := fun σ _ _ _ h q => ht _ _ _ _ (fun vs H1 ⟨p, ys, e, s, q1⟩ => ⟨p, ys, e, s, h _ _ q1⟩) q
theorem mon_test {a : TE} (ha : MonE a) : MonT (tTest a) := fun σ _ _ _ h q => ha _ _ _ _ (fun x H1 ⟨k, e, q1⟩ => ⟨k, e, h _ _ q1⟩) q
theorem mon_and {a b : TT} (ha : MonT a) (hb : MonT b) : MonT (tAnd a b) := fun σ _ _ _ h q => ha _ _ _ _ (fun c H1 q1 => by
  cases c with
  | true => exact hb _ _ _ _ h q1
  | false => exact h _ _ q1) q
theorem whileM {D : Ends} {σ : L2.St} {H : Hp} {c : TT} {tb : TS} (m : MonT c) (Pv : L2.St → Hp → Prop) (μ : L2.St → Hp → Nat) (h0 : Pv σ H)
    (hs : ∀ σ H, Pv σ H → c σ H fun b H1 => if b = true then tb { D with nx := fun σ' H' => Pv σ' H' ∧ μ σ' H' < μ σ H, ct := fun σ' H' => Pv σ' H' ∧ μ σ' H' < μ σ H, bk := D.nx } σ H1 else D.nx σ H1) : tWhile c tb D σ H := while_by Pv μ h0 hs m
/-! ### data compared: lists and tuples of numbers -/
open PyData in
theorem depthAll_ints : ∀ ns : List Int, depthAll (ns.map PyData.int) ≤ 1
  | [] => by simp [depthAll]
  | n :: ns => by
    have := depthAll_ints ns
    simp only [List.map_cons, depthAll, depth]
    omega
open PyData in
theorem canLay_ints : ∀ ns : List Int, canLayAll0 (ns.map PyData.int) = true
  | [] => rfl
  | n :: ns => by simp [canLayAll0, canLay0, canLay_ints ns]
theorem shaped_ints (ns : List Int) : SeqAt.shaped (.list (ns.map .int)) = true := by
  have h := depthAll_ints ns
  have e : (PyData.list (ns.map .int)).depth = PyData.depthAll (ns.map .int) + 1 := by rw [PyData.depth]
  exact Bool.and_eq_true_iff.mpr ⟨by rw [PyData.canLay0]; exact canLay_ints ns, decide_eq_true (by rw [e]; omega)⟩
theorem shaped_intsT (ns : List Int) : SeqAt.shaped (.tuple (ns.map .int)) = true := by
  have h := depthAll_ints ns
  have e : (PyData.tuple (ns.map .int)).depth = PyData.depthAll (ns.map .int) + 1 := by rw [PyData.depth]
  exact Bool.and_eq_true_iff.mpr ⟨by rw [PyData.canLay0]; exact canLay_ints ns, decide_eq_true (by rw [e]; omega)⟩
open PyData in
theorem eqvAll_ints : ∀ ns ms : List Int, eqvAll (ns.map PyData.int) (ms.map PyData.int) = decide (ns = ms)
  | [], [] => rfl
  | [], _ :: _ => by simp [eqvAll]
  | _ :: _, [] => by simp [eqvAll]
  | n :: ns, m :: ms => by
    simp only [List.map_cons, eqvAll, eqv, eqvAll_ints ns ms]
    by_cases h : n = m <;> by_cases h2 : ns = ms <;> simp [h, h2]
theorem eqv_intsL (ns ms : List Int) : PyData.eqv (.list (ns.map .int)) (.list (ms.map .int)) = decide (ns = ms) := by rw [PyData.eqv, eqvAll_ints]
theorem eqv_intsT (ns ms : List Int) : PyData.eqv (.tuple (ns.map .int)) (.tuple (ms.map .int)) = decide (ns = ms) := by rw [PyData.eqv, eqvAll_ints]
theorem dp_all_ints {K : PySem.W.Frag} {H : Hp} : ∀ ns : List Int, DpAll K H (ns.map V.int) (ns.map .int)
  | [] => .nil
  | n :: ns => .cons (.int n) (dp_all_ints ns)
theorem dp_ints {K : PySem.W.Frag} {H : Hp} {a : Addr} {ns : List Int} (h : SqL K H a (ns.map V.int)) : Dp K H (.ref a) (.list (ns.map .int)) := .lst h (dp_all_ints ns)
theorem dp_intsT {K : PySem.W.Frag} {H : Hp} {a : Addr} {ns : List Int} (h : SqT K H a (ns.map V.int)) : Dp K H (.ref a) (.tuple (ns.map .int)) := .tup h (dp_all_ints ns)
/-- two lists of numbers compared -/
theorem s_eqL {K : PySem.W.Frag} {H : Hp} {Q : VK} {a b : Addr} {ns ms : List Int} (h1 : SqL K H a (ns.map V.int)) (h2 : SqL K H b (ms.map V.int)) (q : Q (.bl (decide (ns = ms))) H) : rEqD K (.ref a) (.ref b) H Q :=
  s_eqD (dp_ints h1) (dp_ints h2) (shaped_ints _) (shaped_ints _) (by rw [eqv_intsL]; exact q)
theorem s_neL {K : PySem.W.Frag} {H : Hp} {Q : VK} {a b : Addr} {ns ms : List Int} (h1 : SqL K H a (ns.map V.int)) (h2 : SqL K H b (ms.map V.int)) (q : Q (.bl (!decide (ns = ms))) H) : rNeD K (.ref a) (.ref b) H Q :=
  ⟨_, _, dp_ints h1, dp_ints h2, shaped_ints _, shaped_ints _, by rw [eqv_intsL]; exact q⟩
theorem s_eqT {K : PySem.W.Frag} {H : Hp} {Q : VK} {a b : Addr} {ns ms : List Int} (h1 : SqT K H a (ns.map V.int)) (h2 : SqT K H b (ms.map V.int)) (q : Q (.bl (decide (ns = ms))) H) : rEqD K (.ref a) (.ref b) H Q :=
  s_eqD (dp_intsT h1) (dp_intsT h2) (shaped_intsT _) (shaped_intsT _) (by rw [eqv_intsT]; exact q)
theorem s_neT {K : PySem.W.Frag} {H : Hp} {Q : VK} {a b : Addr} {ns ms : List Int} (h1 : SqT K H a (ns.map V.int)) (h2 : SqT K H b (ms.map V.int)) (q : Q (.bl (!decide (ns = ms))) H) : rNeD K (.ref a) (.ref b) H Q :=
  ⟨_, _, dp_intsT h1, dp_intsT h2, shaped_intsT _, shaped_intsT _, by rw [eqv_intsT]; exact q⟩
theorem rep_int (n k : Nat) (b : Int) : (List.replicate n [V.int b]).flatten = (List.replicate n b).map V.int := by induction n <;> simp_all [List.replicate_succ]
theorem get_int {ns : List Int} {i : Nat} (h : i < ns.length) : (ns.map V.int)[i]? = some (V.int ns[i]) := by simp [h]
/-- what a call left behind: a new thing that stands still from now on -/
theorem Stp.got {S : Addr → Prop} {F H H' : Hp} {p : Addr} {o : HO} (h : Same F H) (s : Same H H') (hn : H p = none) (hp : H' p = some o) : Stp S F H (upd F p o) H' := by
  have fp : F p = none := h.free hn
  refine ⟨fun b u e => by rw [upd_ne (ne_of_none e fp)]; exact e, fun b u e => ?_, fun b u e => by rw [upd_ne (ne_of_none e hn)], fun b u _ e => s b u e, fun b u e => ⟨u, s b u e⟩⟩
  by_cases q : b = p
  · subst q; rw [upd_same] at e; cases e; exact hp
  · rw [upd_ne q] at e; exact s b u (h b u e)
open PyData in
theorem depthAll_bools : ∀ ns : List Bool, depthAll (ns.map PyData.bool) ≤ 1
  | [] => by simp [depthAll]
  | n :: ns => by
    have := depthAll_bools ns
    simp only [List.map_cons, depthAll, depth]
    omega
open PyData in
theorem canLay_bools : ∀ ns : List Bool, canLayAll0 (ns.map PyData.bool) = true
  | [] => rfl
  | n :: ns => by simp [canLayAll0, canLay0, canLay_bools ns]
theorem shaped_bools (ns : List Bool) : SeqAt.shaped (.list (ns.map .bool)) = true := by
  have h := depthAll_bools ns
  have e : (PyData.list (ns.map .bool)).depth = PyData.depthAll (ns.map .bool) + 1 := by rw [PyData.depth]
  exact Bool.and_eq_true_iff.mpr ⟨by rw [PyData.canLay0]; exact canLay_bools ns, decide_eq_true (by rw [e]; omega)⟩
open PyData in
theorem eqvAll_bools : ∀ ns ms : List Bool, eqvAll (ns.map PyData.bool) (ms.map PyData.bool) = decide (ns = ms)
  | [], [] => rfl
  | [], _ :: _ => by simp [eqvAll]
  | _ :: _, [] => by simp [eqvAll]
  | n :: ns, m :: ms => by
    simp only [List.map_cons, eqvAll, eqv, eqvAll_bools ns ms]
    by_cases h : n = m <;> by_cases h2 : ns = ms <;> simp [h, h2]
theorem eqv_boolsL (ns ms : List Bool) : PyData.eqv (.list (ns.map .bool)) (.list (ms.map .bool)) = decide (ns = ms) := by rw [PyData.eqv, eqvAll_bools]
theorem dp_all_bools {K : PySem.W.Frag} {H : Hp} : ∀ ns : List Bool, DpAll K H (ns.map V.bl) (ns.map .bool)
  | [] => .nil
  | n :: ns => .cons (.bl n) (dp_all_bools ns)
theorem dp_bools {K : PySem.W.Frag} {H : Hp} {a : Addr} {ns : List Bool} (h : SqL K H a (ns.map V.bl)) : Dp K H (.ref a) (.list (ns.map .bool)) := .lst h (dp_all_bools ns)
theorem s_neB {K : PySem.W.Frag} {H : Hp} {Q : VK} {a b : Addr} {ns ms : List Bool} (h1 : SqL K H a (ns.map V.bl)) (h2 : SqL K H b (ms.map V.bl)) (q : Q (.bl (!decide (ns = ms))) H) : rNeD K (.ref a) (.ref b) H Q :=
  ⟨_, _, dp_bools h1, dp_bools h2, shaped_bools _, shaped_bools _, by rw [eqv_boolsL]; exact q⟩
theorem eqV_int (i j : Int) : eqV (.int i) (.int j) = decide (i = j) := by
  show (i == j) = decide (i = j)
  by_cases h : i = j <;> simp [h]
theorem inV_ints (x : Int) (ns : List Int) : inV (.int x) (ns.map V.int) = decide (x ∈ ns) := by
  unfold inV
  induction ns with
  | nil => simp
  | cons n ns ih =>
    rw [List.map_cons, List.any_cons, ih, eqV_int]
    by_cases h : n = x
    · subst h; simp
    · by_cases h2 : x ∈ ns
      · simp [h2]
      · have : ¬ x = n := fun z => h z.symm
        simp [h, h2, this]
theorem flat_ints (ns : List Int) : (ns.map V.int).all flatV = true := by
  rw [List.all_eq_true]; intro v hv
  obtain ⟨n, _, rfl⟩ := List.mem_map.mp hv
  rfl
/-- a number in a list of numbers -/
theorem s_inI {K : PySem.W.Frag} {H : Hp} {Q : VK} {a : Addr} {ns : List Int} {x : Int} (h : SqL K H a (ns.map V.int)) (q : Q (.bl (decide (x ∈ ns))) H) : rIn K false (.int x) (.ref a) H Q :=
  ⟨a, _, rfl, .inl h, rfl, flat_ints ns, by rw [if_neg (by decide), inV_ints]; exact q⟩
theorem cutV_nat (xs : List V) (i j : Nat) : cutV xs (some (i : Int)) (some (j : Int)) = (xs.drop i).take (j - i) := by
  unfold cutV
  rw [HT.sIx_nat, HT.sIx_nat]
  by_cases h : i ≤ xs.length
  · rw [Nat.min_eq_left h]
    by_cases h2 : j ≤ xs.length
    · rw [Nat.min_eq_left h2]
    · rw [Nat.min_eq_right (by omega), List.take_of_length_le (by simp), List.take_of_length_le (by simp; omega)]
  · rw [Nat.min_eq_right (show xs.length ≤ i by omega), List.drop_of_length_le (Nat.le_refl _), List.drop_of_length_le (by omega)]; simp
theorem cutV_from (xs : List V) (i : Nat) : cutV xs (some (i : Int)) none = xs.drop i := by
  unfold cutV
  rw [HT.sIx_nat, HT.sIx_none]
  by_cases h : i ≤ xs.length
  · rw [Nat.min_eq_left h, List.take_of_length_le (by simp)]
  · rw [Nat.min_eq_right (by omega), List.drop_of_length_le (by omega), List.drop_of_length_le (by omega)]; simp
theorem cutV_to (xs : List V) (j : Nat) : cutV xs none (some (j : Int)) = xs.take j := by
  unfold cutV
  rw [HT.sIx_nat, HT.sIx_none]
  by_cases h2 : j ≤ xs.length
  · rw [Nat.min_eq_left h2]; simp
  · rw [Nat.min_eq_right (by omega), List.take_of_length_le (by simp), List.take_of_length_le (by omega)]; simp
/-- values without parts, as data -/
def toD : V → PyData
  | .bl b => .bool b
  | .int i => .int i
  | .str s => .str s
  | _ => .none
def flatW (v : V) : Bool := match v with
  | .non => true
  | .bl _ => true
  | .int _ => true
  | .str s => PyData.strOk s
  | _ => false
theorem dp_flat {K : PySem.W.Frag} {H : Hp} {v : V} (h : flatW v = true) : Dp K H v (toD v) := by
  cases v with
  | non => exact .non
  | bl b => exact .bl b
  | int i => exact .int i
  | str s => exact .str s
  | _ => cases h
theorem dp_flats {K : PySem.W.Frag} {H : Hp} : ∀ {vs : List V}, vs.all flatW = true → DpAll K H vs (vs.map toD)
  | [], _ => .nil
  | v :: vs, h => by
    rw [List.all_cons, Bool.and_eq_true] at h
    exact .cons (dp_flat h.1) (dp_flats h.2)
open PyData in
theorem depthAll_flat : ∀ vs : List V, depthAll (vs.map toD) ≤ 1
  | [] => by simp [depthAll]
  | n :: ns => by
    have := depthAll_flat ns
    have e : depth (toD n) = 0 := by cases n <;> simp [toD, depth]
    simp only [List.map_cons, depthAll, e]
    omega
open PyData in
theorem canLay_flat : ∀ vs : List V, vs.all flatW = true → canLayAll0 (vs.map toD) = true
  | [], _ => rfl
  | n :: ns, h => by
    rw [List.all_cons, Bool.and_eq_true] at h
    have e : canLay0 (toD n) = true := by
      cases n with
      | str s => exact h.1
      | _ => rfl
    simp [canLayAll0, e, canLay_flat ns h.2]
theorem shaped_flatT {vs : List V} (h : vs.all flatW = true) : SeqAt.shaped (.tuple (vs.map toD)) = true := by
  have h1 := depthAll_flat vs
  have e : (PyData.tuple (vs.map toD)).depth = PyData.depthAll (vs.map toD) + 1 := by rw [PyData.depth]
  exact Bool.and_eq_true_iff.mpr ⟨by rw [PyData.canLay0]; exact canLay_flat vs h, decide_eq_true (by rw [e]; omega)⟩
/-- two equal tuples compared -/
theorem s_neTs {K : PySem.W.Frag} {H : Hp} {Q : VK} {a b : Addr} {vs : List V} (h1 : SqT K H a vs) (h2 : SqT K H b vs) (f : vs.all flatW = true) (q : Q (.bl false) H) : rNeD K (.ref a) (.ref b) H Q :=
  ⟨_, _, .tup h1 (dp_flats f), .tup h2 (dp_flats f), shaped_flatT f, shaped_flatT f, by rw [SeqAt.eqv_refl _ (SeqAt.canLay_of_shaped (shaped_flatT f))]; exact q⟩
theorem s_eqTs {K : PySem.W.Frag} {H : Hp} {Q : VK} {a b : Addr} {vs : List V} (h1 : SqT K H a vs) (h2 : SqT K H b vs) (f : vs.all flatW = true) (q : Q (.bl true) H) : rEqD K (.ref a) (.ref b) H Q :=
  ⟨_, _, .tup h1 (dp_flats f), .tup h2 (dp_flats f), shaped_flatT f, shaped_flatT f, by rw [SeqAt.eqv_refl _ (SeqAt.canLay_of_shaped (shaped_flatT f))]; exact q⟩
/-- a written list of one thing, so many times -/
theorem s_rep {H : Hp} {Q : VK} {l : Addr} {v : V} {k : Int} (h : H l = some (.lst [v])) (k1 : k ≤ 100000) (k0 : -100000 ≤ k) (q : ∀ p, H p = none → Q (.ref p) (upd H p (.lst (List.replicate k.toNat v)))) : rRep (.ref l) (.int k) H Q := by
  have e : (List.replicate k.toNat [v]).flatten = List.replicate k.toNat v := by
    generalize k.toNat = n
    induction n with
    | zero => rfl
    | succ n ih => rw [List.replicate_succ, List.flatten_cons, ih]; rfl
  have hz : 1 * k.toNat ≤ sizeLine := by rw [Nat.one_mul]; exact sz (by omega)
  exact ⟨l, k, [v], rfl, rfl, h, by omega, by omega, hz, fun p hp => by rw [e]; exact q p hp⟩
/-- lists of lists of numbers -/
def RowV (K : PySem.W.Frag) (H : Hp) (v : V) (l : List Int) : Prop := ∃ a, v = .ref a ∧ SqL K H a (l.map V.int)
inductive RowsV (K : PySem.W.Frag) (H : Hp) : List V → List (List Int) → Prop
  | nil : RowsV K H [] []
  | cons {v : V} {vs : List V} {l : List Int} {ls : List (List Int)} : RowV K H v l → RowsV K H vs ls → RowsV K H (v :: vs) (l :: ls)
theorem RowsV.dp {K : PySem.W.Frag} {H : Hp} : ∀ {vs : List V} {ls : List (List Int)}, RowsV K H vs ls → DpAll K H vs (ls.map fun l => .list (l.map .int))
  | _, _, .nil => .nil
  | _, _, .cons ⟨a, e, h⟩ r => .cons (e ▸ dp_ints h) r.dp
open PyData in
theorem depthAll_rows : ∀ ls : List (List Int), depthAll (ls.map fun l => PyData.list (l.map .int)) ≤ 2
  | [] => by simp [depthAll]
  | l :: ls => by
    have h1 := depthAll_rows ls
    have h2 := depthAll_ints l
    simp only [List.map_cons, depthAll, depth]
    omega
open PyData in
theorem canLay_rows : ∀ ls : List (List Int), canLayAll0 (ls.map fun l => PyData.list (l.map .int)) = true
  | [] => rfl
  | l :: ls => by simp [canLayAll0, canLay0, canLay_ints, canLay_rows ls]
theorem shaped_rows (ls : List (List Int)) : SeqAt.shaped (.list (ls.map fun l => .list (l.map .int))) = true := by
  have h := depthAll_rows ls
  have e : (PyData.list (ls.map fun l => PyData.list (l.map .int))).depth = PyData.depthAll (ls.map fun l => PyData.list (l.map .int)) + 1 := by rw [PyData.depth]
  exact Bool.and_eq_true_iff.mpr ⟨by rw [PyData.canLay0]; exact canLay_rows ls, decide_eq_true (by rw [e]; omega)⟩
theorem s_eqRows {K : PySem.W.Frag} {H : Hp} {Q : VK} {a b : Addr} {xs ys : List V} {ls : List (List Int)} (h1 : SqL K H a xs) (h2 : SqL K H b ys) (r1 : RowsV K H xs ls) (r2 : RowsV K H ys ls) (q : Q (.bl true) H) : rEqD K (.ref a) (.ref b) H Q :=
  s_eqD (.lst h1 r1.dp) (.lst h2 r2.dp) (shaped_rows ls) (shaped_rows ls) (by rw [SeqAt.eqv_refl _ (SeqAt.canLay_of_shaped (shaped_rows ls))]; exact q)
theorem s_neRows {K : PySem.W.Frag} {H : Hp} {Q : VK} {a b : Addr} {xs ys : List V} {ls : List (List Int)} (h1 : SqL K H a xs) (h2 : SqL K H b ys) (r1 : RowsV K H xs ls) (r2 : RowsV K H ys ls) (q : Q (.bl false) H) : rNeD K (.ref a) (.ref b) H Q :=
  ⟨_, _, .lst h1 r1.dp, .lst h2 r2.dp, shaped_rows ls, shaped_rows ls, by rw [SeqAt.eqv_refl _ (SeqAt.canLay_of_shaped (shaped_rows ls))]; exact q⟩
/-- lists of flat tuples -/
def TupV (K : PySem.W.Frag) (H : Hp) (v : V) (l : List V) : Prop := ∃ a, v = .ref a ∧ SqT K H a l ∧ l.all flatW = true
inductive TupsV (K : PySem.W.Frag) (H : Hp) : List V → List (List V) → Prop
  | nil : TupsV K H [] []
  | cons {v : V} {vs : List V} {l : List V} {ls : List (List V)} : TupV K H v l → TupsV K H vs ls → TupsV K H (v :: vs) (l :: ls)
theorem TupsV.dp {K : PySem.W.Frag} {H : Hp} : ∀ {vs : List V} {ls : List (List V)}, TupsV K H vs ls → DpAll K H vs (ls.map fun l => .tuple (l.map toD))
  | _, _, .nil => .nil
  | _, _, .cons ⟨_, e, h, f⟩ r => .cons (e ▸ .tup h (dp_flats f)) r.dp
open PyData in
theorem depthAll_tups : ∀ ls : List (List V), depthAll (ls.map fun l => PyData.tuple (l.map toD)) ≤ 2
  | [] => by simp [depthAll]
  | l :: ls => by
    have h1 := depthAll_tups ls
    have h2 := depthAll_flat l
    simp only [List.map_cons, depthAll, depth]
    omega
open PyData in
theorem canLay_tups {K : PySem.W.Frag} {H : Hp} : ∀ {vs : List V} {ls : List (List V)}, TupsV K H vs ls → canLayAll0 (ls.map fun l => PyData.tuple (l.map toD)) = true
  | _, _, .nil => rfl
  | _, _, .cons ⟨_, _, _, f⟩ r => by simp [canLayAll0, canLay0, canLay_flat _ f, canLay_tups r]
theorem shaped_tups {K : PySem.W.Frag} {H : Hp} {vs : List V} {ls : List (List V)} (r : TupsV K H vs ls) : SeqAt.shaped (.list (ls.map fun l => .tuple (l.map toD))) = true := by
  have h := depthAll_tups ls
  have e : (PyData.list (ls.map fun l => PyData.tuple (l.map toD))).depth = PyData.depthAll (ls.map fun l => PyData.tuple (l.map toD)) + 1 := by rw [PyData.depth]
  exact Bool.and_eq_true_iff.mpr ⟨by rw [PyData.canLay0]; exact canLay_tups r, decide_eq_true (by rw [e]; omega)⟩
theorem s_eqTups {K : PySem.W.Frag} {H : Hp} {Q : VK} {a b : Addr} {xs ys : List V} {ls : List (List V)} (h1 : SqL K H a xs) (h2 : SqL K H b ys) (r1 : TupsV K H xs ls) (r2 : TupsV K H ys ls) (q : Q (.bl true) H) : rEqD K (.ref a) (.ref b) H Q :=
  s_eqD (.lst h1 r1.dp) (.lst h2 r2.dp) (shaped_tups r1) (shaped_tups r2) (by rw [SeqAt.eqv_refl _ (SeqAt.canLay_of_shaped (shaped_tups r1))]; exact q)
theorem s_neTups {K : PySem.W.Frag} {H : Hp} {Q : VK} {a b : Addr} {xs ys : List V} {ls : List (List V)} (h1 : SqL K H a xs) (h2 : SqL K H b ys) (r1 : TupsV K H xs ls) (r2 : TupsV K H ys ls) (q : Q (.bl false) H) : rNeD K (.ref a) (.ref b) H Q :=
  ⟨_, _, .lst h1 r1.dp, .lst h2 r2.dp, shaped_tups r1, shaped_tups r2, by rw [SeqAt.eqv_refl _ (SeqAt.canLay_of_shaped (shaped_tups r1))]; exact q⟩
/-! ### a list to draw from: [a great number, a number that is stirred] -/
def Src (F H : Hp) (p : Addr) : Prop := Same F H ∧ F p = none ∧ ∃ a b : Int, H p = some (.lst [.int a, .int b]) ∧ 0 ≤ b ∧ b < 2147483647
theorem Src.of {F H H' : Hp} {p : Addr} (h : Src F H p) (s : Same H H') : Src F H' p := let ⟨a, b, x, y, e, z⟩ := h; ⟨a.trans s, b, x, y, s _ _ e, z⟩
theorem Src.wr {F H : Hp} {p : Addr} {x y : Int} (h : Src F H p) (y0 : 0 ≤ y) (y1 : y < 2147483647) : Src F (upd H p (.lst [.int x, .int y])) p :=
  ⟨(Stp.wr (S := S1 p) h.1 rfl h.2.1).fh, h.2.1, x, y, upd_same, y0, y1⟩
theorem Src.weak {F F' H : Hp} {p : Addr} (h : Src F' H p) (s : Same F F') : Src F H p := let ⟨a, b, x⟩ := h; ⟨s.trans a, s.free b, x⟩
theorem Src.new {F H : Hp} {p q : Addr} {o : HO} (h : Src F H p) (hq : H q = none) : Src (upd F q o) (upd H q o) p := by
  obtain ⟨a, b, x, y, e, z⟩ := h
  have n : p ≠ q := ne_of_none e hq
  exact ⟨(Stp.new (S := S0) a hq).fh, by rw [upd_ne n]; exact b, x, y, by rw [upd_ne n]; exact e, z⟩
/-- a cell beside it is written -/
theorem Src.upd {F H : Hp} {p q : Addr} {o : HO} (h : Src F H p) (n : q ≠ p) (fq : F q = none) : Src F (upd H q o) p := by
  obtain ⟨a, b, x, y, e, z⟩ := h
  exact ⟨(Stp.wr (S := S1 q) a rfl fq).fh, b, x, y, by rw [upd_ne n.symm]; exact e, z⟩
theorem Src.dom {F H : Hp} {p : Addr} (h : Src F H p) : ∃ o, H p = some o := let ⟨_, _, x, y, e, _⟩ := h; ⟨_, e⟩
theorem Src.frz {F H : Hp} {p d : Addr} {o : HO} (h : Src F H p) (n : p ≠ d) (fh : Same (L2.upd F d o) H) : Src (L2.upd F d o) H p := by
  obtain ⟨a, b, x, y, e, z⟩ := h
  exact ⟨fh, by rw [upd_ne n]; exact b, x, y, e, z⟩
theorem Src.ne {F H : Hp} {p d : Addr} (h : Src F H p) (hd : H d = none) : p ≠ d := by
  obtain ⟨o, e⟩ := h.dom
  exact ne_of_none e hd
/-- behind a draw: what stands beside the cell is as it was -/
def Drawn (p : Addr) (F H H' : Hp) : Prop := Src F H' p ∧ Stp (S1 p) F H F H'
section SecFmt
open PySem PySem.Spec PyProof.Rows L2
/-- the binary digits of a number that is not negative, as a text -/
def binText (n : Nat) : Str := ⟨((Nat.toDigits 2 n).map Char.toNat).toArray⟩
def fB : Builtin.Float.FormatSpec := { align := 62, type := some 98 }
theorem parseB : Builtin.Float.parseFormatSpec (Str.ofString "b").cps.toList "int" 62 = Except.ok fB := by rfl
section
variable {prog : Program} {w : World} {A : Around} {E : Value → Shared → Prop} {s : Shared}
theorem ite_no {β : Type} {M : Model} {c : Prop} [Decidable c] {x y : Sem β} {Q : β → Shared → Prop} (h : ¬ c) (q : wpAny M A y Q E s) : wpAny M A (if c then x else y) Q E s := by rw [if_neg h]; exact q
theorem field_b {a : Int} {t : Tok} {Q : Value → Shared → Prop} (h0 : 0 ≤ a) (hl : (Nat.toDigits 2 a.natAbs).length ≤ 100000)
    (h : Q (.str (binText a.natAbs) (s.toks + 1)) { s with toks := s.toks + 1 + 1 }) : wpAny (model prog w) A (formatField (.int a t) (Str.ofString "b")) Q E s := by
  show wpAny _ _ (holding [.int a t] (pyFormat (.int a t) (Str.ofString "b"))) Q E s
  refine wpAny_holding ?_
  unfold pyFormat
  refine wpAny_bind (wpAny_mkStr ?_ (by decide))
  refine wpAny_bind (m := callSpecial? (.int a t) (Str.ofString "__format__") [.str (Str.ofString "b") s.toks])
    (wpAny_callSpecial?_slot (name := Str.ofString "__format__") (typeIs_int _ a t) slot_int_format ?_)
  refine wpAny_call (codeAny_call_builtin slot_int_format.plain entry_int_format
    (slot_int_format.check _ _ _ _ _ _ _ _ (typeIs_int _ a t) (args_int_format _ _) ?_))
  have hne : ((Str.ofString "b").length == 0) = false := by decide
  have hasc : (((Str.ofString "b").cps.toList.drop 1).any (· ≥ 128) || ((Str.ofString "b").cps.getD 0 0 ≥ 128 && !([60, 62, 61, 94] : List Nat).contains ((Str.ofString "b").cps.getD 1 0))) = false := by decide
  unfold Builtin.«int.__format__»
  simp only [selfAndOne, noKeywords, Builtin.Int.intOfSelf, asInt?, asStr?, List.isEmpty_nil, if_true, pure_bind, bind_pure, bind_assoc, hne, hasc, Bool.false_eq_true,
    if_false, show (Value.str (Str.ofString "b") s.toks == Value.none) = false from rfl]
  refine wpAny_bind (wpAny_typeNameOf (T := "str") (typeIs_str _ _ _) (by decide) fun _ => ?_)
  first | refine wpAny_bind (wpAny_typeNameOfCut_int ?_) | refine wpAny_bind (wpAny_typeNameOf_int ?_)
  simp only [parseB, fB]
  rw [if_pos (by decide)]
  simp only [Option.getD_some]
  show wpAny _ _ (retStr _) _ _ _
  unfold retStr
  have key : ∀ (x : Str), x = binText a.natAbs → x.length ≤ sizeLine ∧ Q (.str x (s.toks + 1)) { s with toks := s.toks + 1 + 1 } := fun x e => by
    subst e
    exact ⟨Nat.le_trans (by simpa [binText, Str.length] using hl) (by decide), h⟩
  refine wpAny_bind (wpAny_mkStr (wpAny_pure ?_) (key _ ?hs2).1)
  case hs2 =>
    conv => lhs; whnf
    have hneg : decide (a < 0) = false := by simpa using h0
    simp [hneg, binText]
  dsimp only
  refine wpAny_bind (wpAny_isInstance (typeIs_str _ _ _) isSubtype_str_str (wpAny_pure ?_))
  refine (key _ ?_).2
  conv => lhs; whnf
  have hneg : decide (a < 0) = false := by simpa using h0
  simp [hneg, binText]
end
section
variable {X : Cx}
/-- {n:b} -/
def tFmtB (te : TE) : TE := fun σ H Q => te σ H fun x H1 => ∃ i : Int, x = .int i ∧ 0 ≤ i ∧ (Nat.toDigits 2 i.natAbs).length ≤ 100000 ∧ Q (.str (binText i.natAbs)) H1
theorem pe_fmtB {e : Expr} {te : TE} {k : Nat} {p1 p2 pos : Pos} (he : PE X e te) : PE X (.FormattedValue e (-1) (some (.JoinedStr [.Constant (.str "b") k p1] p2)) pos) (tFmtB te) := by
  refine ⟨fun pins s σ H Q I h => ?_⟩
  refine wpAny_FormattedValue_spec (thn (he.run pins s σ H _ I h) fun v s1 hv => ?_)
  obtain ⟨x, H1, I1, r1, i, rfl, h0, hl, q⟩ := hv
  obtain ⟨t, rfl⟩ := r1
  have hp : PE X (.JoinedStr [.Constant (.str "b") k p1] p2) (tC (.str "b")) := pe_joined1 pe_str
  refine thn (hp.run pins s1 σ H1 (fun v H' => v = .str "b" ∧ H' = H1) I1 ⟨rfl, rfl⟩) fun r s2 hr => ?_
  obtain ⟨y, H2, I2, r2, rfl, rfl⟩ := hr
  obtain ⟨u, rfl⟩ := r2
  exact ⟨_, _, rfl, field_b h0 hl ⟨.str (binText i.natAbs), H2, I2.tok _, ⟨_, rfl⟩, q⟩⟩
end
end SecFmt
section SecBits
open PySem PySem.Spec PyProof.Rows L2
/-! ### binary digits -/
/-- the w lowest binary digits of n, the highest first -/
def fixL : Nat → Nat → List Int
  | 0, _ => []
  | w + 1, n => fixL w (n / 2) ++ [((n % 2 : Nat) : Int)]
theorem fixL_len : ∀ (w n : Nat), (fixL w n).length = w
  | 0, _ => rfl
  | w + 1, n => by rw [fixL, List.length_append, fixL_len w]; rfl
def isBit (b : Int) : Prop := b = 0 ∨ b = 1
theorem fixL_bit : ∀ (w n : Nat), ∀ b ∈ fixL w n, isBit b
  | 0, _, b, h => by simp [fixL] at h
  | w + 1, n, b, h => by
    rw [fixL, List.mem_append] at h
    rcases h with h | h
    · exact fixL_bit w _ b h
    · have : b = ((n % 2 : Nat) : Int) := by simpa using h
      have h2 : n % 2 < 2 := Nat.mod_lt _ (by decide)
      unfold isBit; omega
def code (b : Int) : Nat := (48 + b).toNat
def digs (n : Nat) : List Nat := (Nat.toDigits 2 n).map Char.toNat
theorem digs_small {n : Nat} (h : n < 2) : digs n = [48 + n] := by
  unfold digs; rw [Nat.toDigits_of_lt_base h]
  rcases (by omega : n = 0 ∨ n = 1) with rfl | rfl <;> rfl
theorem digs_step {n : Nat} (h : 2 ≤ n) : digs n = digs (n / 2) ++ [48 + n % 2] := by
  unfold digs; rw [Nat.toDigits_of_base_le (by decide) h, List.map_append]
  congr 1
  rcases (by omega : n % 2 = 0 ∨ n % 2 = 1) with e | e <;> rw [e] <;> rfl
theorem fixL_zero : ∀ w, (fixL w 0).map code = List.replicate w 48
  | 0 => rfl
  | w + 1 => by rw [fixL, List.map_append, fixL_zero w, List.replicate_succ']; rfl
theorem digs_fix : ∀ (w n : Nat), n < 2 ^ (w + 1) → (digs n).length ≤ w + 1 ∧ List.replicate (w + 1 - (digs n).length) 48 ++ digs n = (fixL (w + 1) n).map code
  | 0, n, h => by
    have h2 : n < 2 := by simpa using h
    rw [digs_small h2]
    rcases (by omega : n = 0 ∨ n = 1) with rfl | rfl <;> exact ⟨by decide, by decide⟩
  | w + 1, n, h => by
    by_cases h2 : n < 2
    · rw [digs_small h2]
      refine ⟨by simp, ?_⟩
      rw [fixL, List.map_append, show n / 2 = 0 by omega, fixL_zero]
      show List.replicate (w + 1) 48 ++ [48 + n] = _
      congr 1
      rcases (by omega : n = 0 ∨ n = 1) with rfl | rfl <;> rfl
    · have hp : n / 2 < 2 ^ (w + 1) := by rw [Nat.pow_succ] at h; omega
      obtain ⟨h3, h4⟩ := digs_fix w (n / 2) hp
      rw [digs_step (by omega), fixL, List.map_append, ← h4]
      refine ⟨by simp; omega, ?_⟩
      rw [List.length_append, List.length_singleton, show w + 1 + 1 - ((digs (n / 2)).length + 1) = w + 1 - (digs (n / 2)).length by omega, List.append_assoc]
      congr 2
theorem digs_head {n : Nat} : (digs n)[0]? = some 48 ∨ (digs n)[0]? = some 49 := by
  induction n using Nat.strongRecOn with
  | ind n ih =>
    by_cases h : n < 2
    · rw [digs_small h]; rcases (by omega : n = 0 ∨ n = 1) with rfl | rfl <;> simp
    · rw [digs_step (by omega)]
      have := ih (n / 2) (by omega)
      have hl : 0 < (digs (n / 2)).length := by
        cases e : digs (n / 2) with
        | nil => rw [e] at this; simp at this
        | cons => simp
      rw [List.getElem?_append_left hl]; exact this
theorem zfill_bin {w n : Nat} (h : n < 2 ^ (w + 1)) : (Txt.zfill (binText n) ((w + 1 : Nat) : Int)).cps.toList = (fixL (w + 1) n).map code := by
  obtain ⟨h1, h2⟩ := digs_fix w n h
  have hl : (binText n).length = (digs n).length := by simp [binText, Str.length, digs]
  have hc : (binText n).cps.toList = digs n := by simp [binText, digs]
  unfold Txt.zfill
  by_cases q : (((w + 1 : Nat) : Int) ≤ ((binText n).length : Int))
  · rw [if_pos q, hc, ← h2, show w + 1 - (digs n).length = 0 by omega]; rfl
  · rw [if_neg q]
    have e0 : ∀ x, (binText n).cps[0]? = some x → x ≠ 43 ∧ x ≠ 45 := fun x hx => by
      have : (digs n)[0]? = some x := by rw [← hc]; simpa using hx
      rcases digs_head (n := n) with z | z <;> rw [z] at this <;> cases this <;> decide
    unfold zfilled
    split
    · rename_i hx; exact absurd rfl (e0 _ hx).1
    · rename_i hx; exact absurd rfl (e0 _ hx).2
    · show (Array.replicate _ 48 ++ (binText n).cps ++ Array.replicate 0 48).toList = _
      rw [← h2]
      simp [hc, hl]
theorem bits_le {w n : Nat} (h : n < 2 ^ (w + 1)) : (Nat.toDigits 2 n).length ≤ w + 1 := by
  have := (digs_fix w n h).1
  simpa [digs] using this
theorem intBits_le {n : Int} {w : Nat} (h0 : 0 ≤ n) : (Builtin.Int.intBits n : Nat) ≤ w ↔ n.toNat < 2 ^ w := by
  unfold Builtin.Int.intBits
  by_cases h : n = 0
  · subst h; simp [Nat.two_pow_pos]
  · rw [if_neg (by simpa using h)]
    have e : n.natAbs = n.toNat := by omega
    rw [e, ← Nat.log2_lt (by omega : n.toNat ≠ 0)]
    omega
/-- the number of a list of digits, the highest first -/
def numL (bs : List Int) : Int := bs.foldl (fun a b => 2 * a + b) 0
theorem numL_snoc (bs : List Int) (b : Int) : numL (bs ++ [b]) = 2 * numL bs + b := by simp [numL, List.foldl_append]
theorem num_fixL : ∀ (w n : Nat), n < 2 ^ w → numL (fixL w n) = (n : Int)
  | 0, n, h => by
    have : n = 0 := by simpa using h
    subst this; rfl
  | w + 1, n, h => by
    rw [fixL, numL_snoc, num_fixL w (n / 2) (by rw [Nat.pow_succ] at h; omega)]
    omega
theorem code_bit {b : Int} (h : isBit b) : code b = 48 ∨ code b = 49 := by rcases h with rfl | rfl <;> decide
theorem text_bit {b : Int} (h : isBit b) : PySem.intText? ⟨#[code b]⟩ = some b := by rcases h with rfl | rfl <;> decide +kernel
/-- the digit at a place -/
theorem fixL_at : ∀ (w n i : Nat), i < w → (fixL w n)[i]? = some ((n / 2 ^ (w - 1 - i) % 2 : Nat) : Int)
  | 0, _, _, h => by omega
  | w + 1, n, i, h => by
    rw [fixL]
    by_cases hi : i < w
    · rw [List.getElem?_append_left (by rw [fixL_len]; exact hi), fixL_at w (n / 2) i hi]
      congr 3
      rw [Nat.div_div_eq_div_mul, show w + 1 - 1 - i = (w - 1 - i) + 1 by omega, Nat.pow_succ, Nat.mul_comm]
    · have : i = w := by omega
      subst this
      rw [List.getElem?_append_right (by rw [fixL_len]; exact Nat.le_refl _), fixL_len]
      simp
end SecBits
theorem s_fmtB {σ : L2.St} {H : Hp} {Q : VK} {te : TE} (h : te σ H fun x H1 => ∃ i : Int, x = .int i ∧ 0 ≤ i ∧ (Nat.toDigits 2 i.natAbs).length ≤ 100000 ∧ Q (.str (binText i.natAbs)) H1) : tFmtB te σ H Q := h
section ExcS
open PyProof.Rows
/-! ### own exception classes -/
def exA (mg : Str → Option Value) (x : Str) : Addr := match mg x with
  | some (.ref a) => a
  | _ => 0
theorem exA_of {mg : Str → Option Value} {x : Str} {a : Addr} (h : mg x = some (.ref a)) : exA mg x = a := by unfold exA; rw [h]
structure ExF (K : PySem.W.Frag) (mg : Str → Option Value) (nm : Str) : Prop where
  g : mg nm = some (.ref (exA mg nm))
  x : PySem.W.excIn K (exA mg nm) [.type "ValueError", .type "Exception", .type "BaseException", .type "object"] "ValueError.__new__" = true
  k : PySem.W.keepIn K (.ref (exA mg nm)) = true
  b : PySem.W.subIn K (.ref (exA mg nm)) (.type "BaseException") = some true
  t : PySem.W.typeIn K (.ref (exA mg nm)) = some (.type "type")
  c : ExcC K (exA mg nm)
theorem ExF.mk' {K : PySem.W.Frag} {mg : Str → Option Value} {nm : Str} {C : Addr} (g : mg nm = some (.ref C))
    (x : PySem.W.excIn K C [.type "ValueError", .type "Exception", .type "BaseException", .type "object"] "ValueError.__new__" = true) (k : PySem.W.keepIn K (.ref C) = true)
    (b : PySem.W.subIn K (.ref C) (.type "BaseException") = some true) (t : PySem.W.typeIn K (.ref C) = some (.type "type"))
    (hg : PySem.W.findIn K (.ref C) "__getattribute__" = some (some (.builtin "BaseException.__getattribute__")))
    (hk : PySem.W.findIn K (.ref C) "__getattr__" = some none)
    (hd : PySem.W.hasDictIn K C = true)
    (ha : PySem.W.findIn K (.ref C) "__class__" = some (some (.builtin "object.__class__")))
    (hn : PySem.W.specialIn K (.builtin "object.__class__") "__get__" = some (some (.builtin "getset_descriptor.__get__")))
    (ht : PySem.W.takesIn K (.builtin "object.__class__") = some true)
    (hm : PySem.W.mroIn K C (.type "object") = some true) : ExF K mg nm := by
  have e := exA_of g
  exact ⟨by rw [e]; exact g, by rw [e]; exact x, by rw [e]; exact k, by rw [e]; exact b, by rw [e]; exact t, by rw [e]; exact ⟨hg, hk, b, hd, ha, hn, ht, hm⟩⟩
theorem ExF.exm {K : PySem.W.Frag} {mg : Str → Option Value} {nm : Str} (h : ExF K mg nm) {cls : Value} {b : Bool} (s : PySem.W.subIn K cls (.ref (exA mg nm)) = some b) : PySem.W.exmOne K cls (.ref (exA mg nm)) = some b := PySem.W.exm_ref h.b h.c.hd h.t s
section
variable {X : Cx} {C : Addr} {bmB : List Value} {B newId initId : String}
open PySem.W in
/-- isinstance against an own class, by the order of the classes -/
theorem kit_own {K : Frag} {a C : Addr} {b : Bool} (hd : hasDictIn K C = true) (ht : typeIn K (.ref C) = some (.type "type")) (h : subIn K (.ref a) (.ref C) = some b) (s : subIn K (.ref a) (.ref a) = some true) : kitOne K (.ref a) (.ref C) = some b := by
  obtain ⟨cd, hc, _⟩ := any_some hd
  have e2 : ((clsIn K C).isSome && typeIn K (.ref C) == some (.type "type")) = true := by rw [hc, ht]; rfl
  unfold kitOne
  by_cases q : a = C
  · subst q
    rw [if_pos (by simp), ← h, s]
  · rw [if_neg (by simpa using q)]
    show (if ((clsIn K C).isSome && typeIn K (.ref C) == some (.type "type")) = true then subIn K (.ref a) (.ref C) else none) = some b
    rw [if_pos e2, h]
open PySem.W in
theorem kit_val {K : Frag} {a : Addr} (h : subIn K (.ref a) (.type "ValueError") = some true) : kitOne K (.ref a) (.type "ValueError") = some true := by
  unfold kitOne
  rw [if_neg (by simp)]
  show (if kitMeta "ValueError" = true then subIn K (.ref a) (.type "ValueError") else none) = some true
  rw [if_pos (by decide +kernel), h]
/-- X() -/
theorem pmk_own0 {x : Str} {p pos : Pos} (F : ExcBaseFacts B newId initId bmB) (q : PySem.W.excIn X.K C bmB newId = true) (gC : X.mg x = some (.ref C)) (kC : PySem.W.keepIn X.K (.ref C) = true) (r : Raises X (.ref C)) (hg : Gl X x)
    (hdb : (x == ("__debug__" : Str)) = false := by decide) : PMk X (.Call (.Name x p) [] [] pos) (fun _ H Q => Q (.ref C) none H) := by
  intro pins s σ H Q I h
  refine wpAny_Call_Name_kw (ld_glob I hg gC ?_ hdb)
  refine PySem.W.callWith_K0 I.kIn kC ?_
  obtain ⟨bm, N, nm, qn, bs, hdct, sn, sub, ab, col, dd, k0, k1, k2, k3, k5, mN, hC, hN, hni, T⟩ := exc_obj I.kIn q
  exact wpAny_call_exc_subT F T hC hN hni (fun h' e hm => mk_of I hm r h (I.hok.gone hm.new)) (Nat.zero_le _)
end
/-- isinstance(e, c) in an except suite: e's class is known in the reading -/
def rIsX (K : PySem.W.Frag) (a : Addr) (cls : Value) (d : Option Addr) : List V → Hp → VK → Prop := fun xs H Q => ∃ D, cls = .ref D ∧ d = none ∧ ExcC K D ∧ rIsE K D a xs H Q
theorem call_isX {X : Cx} (K : PySem.W.Frag) (eK : X.K = K) {a : Addr} {cls : Value} {d : Option Addr} {oe : Obj} {pn : List (Addr × Obj)} (hz : Zc cls d oe) (hf : ∃ vs, oe.data = .fields vs) : CallR (X.suite a ((a, oe) :: pn)) (.builtin "isinstance") (rIsX K a cls d) := by
  subst eK
  intro pins s σ H vs us Q I r h
  obtain ⟨D, rfl, rfl, C, q⟩ := h
  exact call_isE C hz hf pins s σ H vs us Q I r q
theorem s_isX {K : PySem.W.Frag} {a D C : Addr} {b : Bool} {H : Hp} {Q : VK} (c : ExcC K D) (k : PySem.W.kitOne K (.ref D) (.ref C) = some b) (q : Q (.bl b) H) : rIsX K a (.ref D) none [.ref a, .ref C] H Q :=
  ⟨D, rfl, rfl, c, .ref C, .ref C, b, rfl, fun _ r => r, k, q⟩
theorem s_isXt {K : PySem.W.Frag} {a D : Addr} {n : String} {b : Bool} {H : Hp} {Q : VK} (c : ExcC K D) (k : PySem.W.kitOne K (.ref D) (.type n) = some b) (q : Q (.bl b) H) : rIsX K a (.ref D) none [.ref a, .ty n] H Q :=
  ⟨D, rfl, rfl, c, .ty n, .type n, b, rfl, fun _ r => r, k, q⟩
theorem s_callS {sp : Sp} {E : L2.St → XK} {t : TA} {σ : L2.St} {H : Hp} {Q : VK} (h : t σ H fun vs H1 => sp vs H1 Q (E σ)) : tCallS sp E t σ H Q := h
theorem cx_none {P : Program} {w : World} {H : Hp} {s : Shared} {e : Value} {s' : Shared} (h : L2.CX P w [] H s (fun _ _ _ => False) e s') : False := by
  obtain ⟨_, _, _, _, _, _, _, _, _, _, _, _, z⟩ := h
  exact z
end ExcS
/-! ### several clauses behind a try, each with a name or without -/
section HandsS
open PySem.Spec PyProof.Rows
def goneD (i : Nat) (D : Ends) : Ends := ⟨fun σ H => D.nx (σ.set i none) H, D.rt, fun σ H => D.bk (σ.set i none) H, fun σ H => D.ct (σ.set i none) H⟩
/-- what the clauses want of an error: the first whose class fits takes it -/
def wH (K : PySem.W.Frag) (out : WX) (D : Ends) : List (Value × Option Nat × (Addr → Value → Option Addr → TS)) → WX
  | [] => out
  | (c, none, ts) :: r => fun cls d σ H => ∃ b, PySem.W.exmOne K cls c = some b ∧ (b = true → ∀ a, H a = none → ts a cls d D σ H) ∧ (b = false → wH K out D r cls d σ H)
  | (c, some i, ts) :: r => fun cls d σ H => ∃ b, PySem.W.exmOne K cls c = some b ∧ (b = true → ∀ a, H a = none → ts a cls d (goneD i D) (σ.set i (some (.ref a))) H) ∧ (b = false → wH K out D r cls d σ H)
inductive HOks (X : Cx) : List ExceptHandler → List (Value × Option Nat × (Addr → Value → Option Addr → TS)) → Prop
  | nil : HOks X [] []
  | anon {x : Str} {c : Value} {ts : Addr → Value → Option Addr → TS} {b₀ : Stmt} {suite : List Stmt} {np pos : Pos} {hds : List ExceptHandler} {l : List (Value × Option Nat × (Addr → Value → Option Addr → TS))} (hc : Names X x c)
      (hsu : ∀ (a : Addr) (oe : Obj) (cls : Value) (d : Option Addr) (pn : List (Addr × Obj)), Zc cls d oe → (∃ vs, oe.data = .fields vs) → PSs (X.suite a ((a, oe) :: pn)) (b₀ :: suite) (ts a cls d)) (r : HOks X hds l) :
      HOks X (.ExceptHandler (some (.Name x np)) none (b₀ :: suite) pos :: hds) ((c, none, ts) :: l)
  | named {x n : Str} {i : Nat} {c : Value} {ts : Addr → Value → Option Addr → TS} {b₀ : Stmt} {suite : List Stmt} {np pos : Pos} {hds : List ExceptHandler} {l : List (Value × Option Nat × (Addr → Value → Option Addr → TS))}
      (hi : X.N[i]? = some n) (hln : X.env.kindOf n = some .local) (hc : Names X x c)
      (hsu : ∀ (a : Addr) (oe : Obj) (cls : Value) (d : Option Addr) (pn : List (Addr × Obj)), Zc cls d oe → (∃ vs, oe.data = .fields vs) → PSs (X.suite a ((a, oe) :: pn)) (b₀ :: suite) (ts a cls d)) (r : HOks X hds l) :
      HOks X (.ExceptHandler (some (.Name x np)) (some n) (b₀ :: suite) pos :: hds) ((c, some i, ts) :: l)
/-- an error that has come down to the frame of a try -/
structure Down (X : Cx) (pins : List (Addr × Obj)) (σ : L2.St) (H : Hp) (cls : Value) (d : Option Addr) (a : Addr) (B : Heap) (sI s : Shared) : Prop where
  at0 : L2.Inv X pins σ H sI
  nb : ∀ (b : Addr) (o : Obj), sI.heap.get? b = some o → ¬ b ∈ frs X.stack → B.get? b = some o
  up : sI.heap.UpToSlots s.heap
  os : s.os = sI.os
  ag : AllBare s.gens
  na : H a = none
  fl : HandSPX.FlyingZ B (X.env :: X.outer) a (Zc cls d) s.heap
variable {X : Cx} {pins : List (Addr × Obj)} {σ : L2.St} {H : Hp} {cls : Value} {d : Option Addr} {a : Addr} {B : Heap} {sI s : Shared}
theorem Down.inv (D : Down X pins σ H cls d a B sI s) : L2.Inv X pins σ H s := D.at0.landed D.nb D.fl.1 D.up D.os D.ag
theorem Down.obj (D : Down X pins σ H cls d a B sI s) (hf : X.env.frame = some X.env.locals) :
    ∃ oe vs, s.heap.get? a = some oe ∧ Zc cls d oe ∧ oe.data = Data.fields vs ∧ L2.Inv (X.suite a ((a, oe) :: (X.pn ++ pins))) [] σ H s := by
  obtain ⟨oe, vs, e, z, dd⟩ := D.fl.there
  have off : a ∉ frs (X.env :: X.outer) := fun hm => by
    obtain ⟨_, o, e', no⟩ := D.fl.2.2.1.mem hm
    rw [e] at e'
    exact no vs ((Option.some.inj e') ▸ dd)
  have n1 : a ≠ X.env.locals := fun z => off (List.mem_filterMap.mpr ⟨X.env, by simp, by rw [hf, z]⟩)
  have n2 : a ∉ X.fs := fun hm => off (by
    obtain ⟨v, hv, q⟩ := List.mem_filterMap.mp hm
    exact List.mem_filterMap.mpr ⟨v, by simp [hv], q⟩)
  exact ⟨oe, vs, e, z, dd, D.inv.suite e dd D.na n1 n2⟩
theorem Down.next (D : Down X pins σ H cls d a B sI s) {h' : Heap} (f : HandSPX.FlyingZ B (X.env :: X.outer) a (Zc cls d) h') (u : s.heap.UpToSlots h') : Down X pins σ H cls d a B sI { s with heap := h' } :=
  ⟨D.at0, D.nb, D.up.trans u, D.os, D.ag, D.na, f⟩
theorem Down.hands (D : Down X pins σ H cls d a B sI s) {W : WX} {E : Ends} (hs : X.stack = X.env :: X.outer) (hf : X.env.frame = some X.env.locals) (hN : X.N.Nodup) (tk : Takes X W) (ok : X.Ok) {hds : List ExceptHandler} {l : List (Value × Option Nat × (Addr → Value → Option Addr → TS))}
    (hh : HOks X hds l) (w : wH X.K W E l cls d σ H) : wpAny (model X.prog X.w) X.A (handleBy (.ref a) X.env hds) (SP X pins E) X.xe s := by
  induction hh with
  | nil =>
    refine wpAny_handleBy_nil ?_
    obtain ⟨_, _, _, oe, vs, T, oT, ts, he, _, hd, h1, _⟩ := id D.fl
    unfold PySem.passOn
    refine wpAny_bind (wpAny_field he hd h1 ?_)
    rw [if_neg (show ¬ ((Value.ref T == Value.none) = true) from by simp)]
    have out : wpAny (model X.prog X.w) X.A (setFlight (.ref a) X.env.frame) (fun _ s4 => wpAny (model X.prog X.w) X.A (throw (.ref a) : Sem Flow) (SP X pins E) X.xe s4) X.xe s := by
      rw [hf]
      exact HandSPX.setFlight_upZ D.fl fun h4 hh4 u4 => wpAny_throw (tk _ _ ⟨a, B, sI, pins, σ, H, cls, d, rfl, D.at0, D.nb, D.up.trans u4, .inr (.inr (by rw [hs]; exact hh4)), D.na, D.os, D.ag, w⟩)
    first
      | exact wpAny_bind (wpAny_pure (wpAny_bind out))
      | exact wpAny_bind out
  | @anon x c ts b₀ suite np pos hds l hc hsu r ih =>
    obtain ⟨b, e1, yes, no⟩ := w
    obtain ⟨oe, vs, he, hz, _, S⟩ := D.obj hf
    refine wpAny_handleBy_cons (codeAny_handlers_test ?_) (by intro q; cases q)
    have ty : PySem.W.Looks (model X.prog X.w) s.heap (typeOf (.ref a)) cls := fun _ _ _ _ k q => wpAny_typeOf_ref (k _ _ he) (by rw [hz.1]; exact q)
    have fits := PySem.W.exm_one (M := model X.prog X.w) D.inv.kIn ty e1
    have name : ∀ {Q E : Value → Shared → Prop}, Q c s → wpAny (model X.prog X.w) (X.A.mark (some (.ref a))) (eval (.Name x np) X.env) Q E s := fun {Q E} q => by
      obtain ⟨g1, g2, g3 | ⟨g3, g4, g5⟩⟩ := hc
      · exact ld_glob (X := X.suite a ((a, oe) :: (X.pn ++ pins))) S g1 g3 q g2
      · exact ld_blt (X := X.suite a ((a, oe) :: (X.pn ++ pins))) S g1 g3 g4 q g5 g2
    refine name (fits.here ?_)
    cases b with
    | false => exact ih (no rfl)
    | true =>
      refine codeAny_handlers_suite (HandSPX.lands_againZ D.fl fun h4 f4 u4 => ?_)
      obtain ⟨oe4, vs4, _, z4, d4, S4⟩ := (D.next f4 u4).obj hf
      refine wpAny_mono ((hsu a oe4 cls d (X.pn ++ pins) z4 ⟨_, d4⟩).run [] _ σ H E S4 (yes rfl a D.na)) (fun f s6 q => ?_) fun _ _ z => z.elim
      cases f with
      | ret u =>
        obtain ⟨v6, σ6, H6, S6, r6, q6⟩ := q
        exact ⟨v6, σ6, H6, S6.unsuite ok, r6, q6⟩
      | _ =>
        obtain ⟨σ6, H6, S6, q6⟩ := q
        exact ⟨σ6, H6, S6.unsuite ok, q6⟩
  | @named x n i c ts b₀ suite np pos hds l hi hln hc hsu r ih =>
    obtain ⟨b, e1, yes, no⟩ := w
    obtain ⟨oe, vs, he, hz, _, S⟩ := D.obj hf
    refine wpAny_handleBy_cons (codeAny_handlers_test ?_) (by intro q; cases q)
    have ty : PySem.W.Looks (model X.prog X.w) s.heap (typeOf (.ref a)) cls := fun _ _ _ _ k q => wpAny_typeOf_ref (k _ _ he) (by rw [hz.1]; exact q)
    have fits := PySem.W.exm_one (M := model X.prog X.w) D.inv.kIn ty e1
    have name : ∀ {Q E : Value → Shared → Prop}, Q c s → wpAny (model X.prog X.w) (X.A.mark (some (.ref a))) (eval (.Name x np) X.env) Q E s := fun {Q E} q => by
      obtain ⟨g1, g2, g3 | ⟨g3, g4, g5⟩⟩ := hc
      · exact ld_glob (X := X.suite a ((a, oe) :: (X.pn ++ pins))) S g1 g3 q g2
      · exact ld_blt (X := X.suite a ((a, oe) :: (X.pn ++ pins))) S g1 g3 g4 q g5 g2
    refine name (fits.here ?_)
    cases b with
    | false => exact ih (no rfl)
    | true =>
      refine codeAny_handlers_suite_as (HandSPX.lands_againZ D.fl fun h4 f4 u4 => ?_)
      obtain ⟨oe4, vs4, _, z4, d4, S4⟩ := (D.next f4 u4).obj hf
      refine store_ok (X := X.suite a ((a, oe4) :: (X.pn ++ pins))) (v := .ref a) S4 hN hi (.inl hln) rfl (fun s5 S5 => ?_) (.inr hln)
      refine wpAny_mono ((hsu a oe4 cls d (X.pn ++ pins) z4 ⟨_, d4⟩).run [] s5 _ H (goneD i E) S5 (yes rfl a D.na)) (fun f s6 q => ?_) fun _ _ z => z.elim
      cases f with
      | ret u =>
        obtain ⟨v6, σ6, H6, S6, r6, q6⟩ := q
        exact gone_ok (S6.unsuite ok) hN hi hln fun s7 J7 => ⟨_, _, _, J7, r6, q6⟩
      | _ =>
        obtain ⟨σ6, H6, S6, q6⟩ := q
        exact gone_ok (S6.unsuite ok) hN hi hln fun s7 J7 => ⟨_, _, J7, q6⟩
/-- try: body, then clauses with names or without -/
theorem ps_tryH {body : List Stmt} {h₀ : ExceptHandler} {hds : List ExceptHandler} {l : List (Value × Option Nat × (Addr → Value → Option Addr → TS))} {W : WX} {tb : WX → TS} {pos : Pos} (hs : X.stack = X.env :: X.outer) (hf : X.env.frame = some X.env.locals) (hN : X.N.Nodup) (tk : Takes X W)
    (hb : ∀ (V : WX) (pn : List (Addr × Obj)) (xe : Value → Shared → Prop), Takes (X.tr pn xe) V → PassesOwn (model X.prog X.w) X.A X.env xe → PSs (X.tr pn xe) body (tb V))
    (hh : HOks X (h₀ :: hds) l) : PS X (.Try body (h₀ :: hds) [] [] pos) (fun D σ H => tb (wH X.K W D l) D σ H) := by
  refine ⟨fun pins s σ H D I h => ?_⟩
  have ok := I.ok
  refine wpAny_Try_except (wpAny_mono ((hb (wH X.K W D l) (X.pn ++ pins) _ (fun u s' xx => ?_) PassesOwn.looking).run [] s σ H D (I.toTry _) h) (fun f s1 q => ?_) fun e s1 he => he)
  · obtain ⟨a, B, sI, pins', σ', H', cls, d, rfl, J', nb, up, sky, na, os, ag, w⟩ := xx
    have sky' : Sky B (X.env :: X.outer) a (Zc cls d) X.env.locals s'.heap := by rw [← hs]; exact sky
    exact Sky.land Zc.steady (by rw [ok.frames, hs]) hf sky' fun h3 f3 u3 => Down.hands (s := { s' with heap := h3 }) ⟨J'.ofTry ok, nb, up.trans u3, os, ag, na, f3⟩ hs hf hN tk ok hh w
  · cases f with
    | next =>
      obtain ⟨σ', H', J', q⟩ := q
      exact wpAny_execs_nil ⟨σ', H', J'.ofTry ok, q⟩
    | ret u =>
      obtain ⟨v, σ', H', J', r, q⟩ := q
      exact ⟨v, σ', H', J'.ofTry ok, r, q⟩
    | _ =>
      obtain ⟨σ', H', J', q⟩ := q
      exact ⟨σ', H', J'.ofTry ok, q⟩
end HandsS
section SecCrc
open PySem PySem.Spec PyProof.Rows L2
/-! ### the check: linear -/
def stp (h b : Nat) : Nat := (2 * h % 256) ^^^ (if (h / 128) ^^^ b = 1 then 7 else 0)
theorem stp_lt (h b : Nat) : stp h b < 256 := by
  unfold stp
  refine Nat.xor_lt_two_pow (n := 8) (Nat.mod_lt _ (by decide)) ?_
  split <;> decide
theorem xor_div_128 (a b : Nat) : (a ^^^ b) / 128 = a / 128 ^^^ b / 128 := by
  have := Nat.shiftRight_xor_distrib (a := a) (b := b) (i := 7)
  rw [Nat.shiftRight_eq_div_pow, Nat.shiftRight_eq_div_pow, Nat.shiftRight_eq_div_pow] at this
  exact this
theorem xor_two (a b : Nat) : 2 * (a ^^^ b) = 2 * a ^^^ 2 * b := by
  have := Nat.shiftLeft_xor_distrib (a := a) (b := b) (i := 1)
  rw [Nat.shiftLeft_eq, Nat.shiftLeft_eq, Nat.shiftLeft_eq] at this
  rw [Nat.mul_comm 2, Nat.mul_comm 2, Nat.mul_comm 2]
  exact this
theorem xor4 (a b c d : Nat) : (a ^^^ b) ^^^ (c ^^^ d) = (a ^^^ c) ^^^ (b ^^^ d) := by
  rw [Nat.xor_assoc, Nat.xor_assoc, ← Nat.xor_assoc b c d, Nat.xor_comm b c, Nat.xor_assoc c b d]
theorem stp_lin {h k b c : Nat} (hh : h < 256) (hk : k < 256) (hb : b < 2) (hc : c < 2) : stp (h ^^^ k) (b ^^^ c) = stp h b ^^^ stp k c := by
  unfold stp
  have h1 : h / 128 < 2 := by omega
  have k1 : k / 128 < 2 := by omega
  have key : ∀ x y : Nat, x < 2 → y < 2 → (if (x ^^^ y) ^^^ (b ^^^ c) = 1 then 7 else 0) = (if x ^^^ b = 1 then 7 else 0) ^^^ (if y ^^^ c = 1 then 7 else 0) := ?_
  · rw [xor_two, xor_div_128, show (256 : Nat) = 2 ^ 8 from rfl, Nat.xor_mod_two_pow, key _ _ h1 k1, xor4]
  intro x y hx hy
  rcases (by omega : x = 0 ∨ x = 1) with rfl | rfl <;> rcases (by omega : y = 0 ∨ y = 1) with rfl | rfl <;> rcases (by omega : b = 0 ∨ b = 1) with rfl | rfl <;> rcases (by omega : c = 0 ∨ c = 1) with rfl | rfl <;> rfl
def cf (h : Nat) (bs : List Int) : Nat := bs.foldl (fun h b => stp h b.toNat) h
def chk (bs : List Int) : Nat := cf 0 bs
theorem cf_lt : ∀ (bs : List Int) (h : Nat), h < 256 → cf h bs < 256
  | [], _, hh => hh
  | b :: bs, h, _ => cf_lt bs _ (stp_lt _ _)
theorem chk_lt (bs : List Int) : chk bs < 256 := cf_lt bs 0 (by decide)
theorem cf_snoc (bs : List Int) (h : Nat) (b : Int) : cf h (bs ++ [b]) = stp (cf h bs) b.toNat := by simp [cf, List.foldl_append]
/-- some bits turned: those at the places E, counted from i -/
def flipL (E : Nat → Bool) : Nat → List Int → List Int
  | _, [] => []
  | i, x :: xs => (if E i then 1 - x else x) :: flipL E (i + 1) xs
theorem flipL_len (E : Nat → Bool) : ∀ (xs : List Int) (i : Nat), (flipL E i xs).length = xs.length
  | [], _ => rfl
  | x :: xs, i => by simp [flipL, flipL_len E xs]
theorem flipL_append (E : Nat → Bool) : ∀ (xs ys : List Int) (i : Nat), flipL E i (xs ++ ys) = flipL E i xs ++ flipL E (i + xs.length) ys
  | [], ys, i => by simp [flipL]
  | x :: xs, ys, i => by simp [flipL, flipL_append E xs ys (i + 1), Nat.add_comm, Nat.add_left_comm]
theorem flipL_at (E : Nat → Bool) : ∀ (xs : List Int) (i j : Nat), (flipL E i xs)[j]? = (xs[j]?).map fun x => if E (i + j) then 1 - x else x
  | [], _, _ => by simp [flipL]
  | x :: xs, i, 0 => by simp [flipL]
  | x :: xs, i, j + 1 => by simp [flipL, flipL_at E xs (i + 1) j, Nat.add_comm, Nat.add_left_comm]
def cfE (E : Nat → Bool) : Nat → Nat → Nat → Nat
  | d, _, 0 => d
  | d, i, n + 1 => cfE E (stp d (E i).toNat) (i + 1) n
theorem toNat_lt (b : Bool) : b.toNat < 2 := by cases b <;> decide
theorem bit_lt {x : Int} (h : isBit x) : x.toNat < 2 := by rcases h with rfl | rfl <;> decide
theorem flip_bit {x : Int} (h : isBit x) (e : Bool) : (if e then 1 - x else x).toNat = x.toNat ^^^ e.toNat := by rcases h with rfl | rfl <;> cases e <;> rfl
theorem cf_flip (E : Nat → Bool) : ∀ (xs : List Int) (h d i : Nat), h < 256 → d < 256 → (∀ x ∈ xs, isBit x) → cf (h ^^^ d) (flipL E i xs) = cf h xs ^^^ cfE E d i xs.length
  | [], _, _, _, _, _, _ => rfl
  | x :: xs, h, d, i, hh, hd, hx => by
    have e : cf (h ^^^ d) (flipL E i (x :: xs)) = cf (stp (h ^^^ d) (if E i then 1 - x else x).toNat) (flipL E (i + 1) xs) := rfl
    rw [e, flip_bit (hx x (by simp)), stp_lin hh hd (bit_lt (hx x (by simp))) (toNat_lt _), cf_flip E xs _ _ _ (stp_lt _ _) (stp_lt _ _) fun y hy => hx y (by simp [hy])]
    rfl
def maskN (E : Nat → Bool) (i : Nat) : Nat → Nat
  | 0 => 0
  | w + 1 => 2 * maskN E i w + (E (i + w)).toNat
theorem xor_half (c m e : Nat) (he : e < 2) : (c ^^^ (2 * m + e)) / 2 = c / 2 ^^^ m ∧ (c ^^^ (2 * m + e)) % 2 = c % 2 ^^^ e := by
  have h1 := Nat.shiftRight_xor_distrib (a := c) (b := 2 * m + e) (i := 1)
  rw [Nat.shiftRight_eq_div_pow, Nat.shiftRight_eq_div_pow, Nat.shiftRight_eq_div_pow] at h1
  have h2 := Nat.xor_mod_two_pow (a := c) (b := 2 * m + e) (n := 1)
  refine ⟨by rw [show (2 : Nat) = 2 ^ 1 from rfl, h1]; congr 1; omega, by rw [show (2 : Nat) = 2 ^ 1 from rfl, h2]; congr 1; omega⟩
theorem fixL_len' : ∀ (w n : Nat), (fixL w n).length = w
  | 0, _ => rfl
  | w + 1, n => by rw [fixL, List.length_append, fixL_len' w]; rfl
theorem flip_fix (E : Nat → Bool) (i : Nat) : ∀ (w c : Nat), flipL E i (fixL w c) = fixL w (c ^^^ maskN E i w)
  | 0, _ => rfl
  | w + 1, c => by
    obtain ⟨h1, h2⟩ := xor_half c (maskN E i w) (E (i + w)).toNat (toNat_lt _)
    rw [fixL, flipL_append, flip_fix E i w, fixL, maskN, h1, h2, fixL_len']
    congr 1
    have : c % 2 < 2 := Nat.mod_lt _ (by decide)
    show [if E (i + w) then 1 - ((c % 2 : Nat) : Int) else ((c % 2 : Nat) : Int)] = _
    rcases (by omega : c % 2 = 0 ∨ c % 2 = 1) with e | e <;> rw [e] <;> cases E (i + w) <;> rfl
/-- what turned bits leave -/
def synd (E : Nat → Bool) : Nat := cfE E 0 0 48 ^^^ maskN E 48 8
abbrev xorE (E G : Nat → Bool) : Nat → Bool := fun i => E i ^^ G i
theorem toNat_xor (a b : Bool) : (a ^^ b).toNat = a.toNat ^^^ b.toNat := by cases a <;> cases b <;> rfl
theorem cfE_lin (E G : Nat → Bool) : ∀ (n d e i : Nat), d < 256 → e < 256 → cfE (xorE E G) (d ^^^ e) i n = cfE E d i n ^^^ cfE G e i n
  | 0, _, _, _, _, _ => rfl
  | n + 1, d, e, i, hd, he => by
    show cfE (xorE E G) (stp (d ^^^ e) (E i ^^ G i).toNat) (i + 1) n = _
    rw [toNat_xor, stp_lin hd he (toNat_lt _) (toNat_lt _), cfE_lin E G n _ _ _ (stp_lt _ _) (stp_lt _ _)]
    rfl
theorem maskN_lin (E G : Nat → Bool) (i : Nat) : ∀ w, maskN (xorE E G) i w = maskN E i w ^^^ maskN G i w
  | 0 => by simp [maskN]
  | w + 1 => by
    show 2 * maskN (xorE E G) i w + (E (i + w) ^^ G (i + w)).toNat = _
    rw [maskN_lin E G i w, toNat_xor]
    obtain ⟨h1, h2⟩ := xor_half (2 * maskN E i w + (E (i + w)).toNat) (maskN G i w) (G (i + w)).toNat (toNat_lt _)
    have t1 := toNat_lt (E (i + w)); have t2 := toNat_lt (G (i + w))
    rw [show (2 * maskN E i w + (E (i + w)).toNat) / 2 = maskN E i w by omega] at h1
    rw [show (2 * maskN E i w + (E (i + w)).toNat) % 2 = (E (i + w)).toNat by omega] at h2
    have l : maskN E i (w + 1) = 2 * maskN E i w + (E (i + w)).toNat := rfl
    have l' : maskN G i (w + 1) = 2 * maskN G i w + (G (i + w)).toNat := rfl
    rw [l, l']
    omega
theorem synd_lin (E G : Nat → Bool) : synd (xorE E G) = synd E ^^^ synd G := by
  unfold synd
  rw [← xor4, ← maskN_lin, ← cfE_lin E G 48 0 0 0 (by decide) (by decide)]
  rfl
theorem cfE_congr {E G : Nat → Bool} : ∀ (n d i : Nat), (∀ j, j < i + n → E j = G j) → cfE E d i n = cfE G d i n
  | 0, _, _, _ => rfl
  | n + 1, d, i, h => by
    show cfE E (stp d (E i).toNat) (i + 1) n = cfE G (stp d (G i).toNat) (i + 1) n
    rw [h i (by omega), cfE_congr n _ _ fun j hj => h j (by omega)]
theorem maskN_congr {E G : Nat → Bool} (i : Nat) : ∀ w, (∀ j, j < i + w → E j = G j) → maskN E i w = maskN G i w
  | 0, _ => rfl
  | w + 1, h => by
    show 2 * maskN E i w + (E (i + w)).toNat = 2 * maskN G i w + (G (i + w)).toNat
    rw [maskN_congr i w fun j hj => h j (by omega), h (i + w) (by omega)]
theorem synd_congr {E G : Nat → Bool} (h : ∀ j, j < 56 → E j = G j) : synd E = synd G := by
  unfold synd
  rw [cfE_congr 48 0 0 fun j hj => h j (by omega), maskN_congr 48 8 fun j hj => h j (by omega)]
def one (x : Nat) : Nat → Bool := fun i => decide (i = x)
theorem xor_zero' {a b : Nat} (e : a ^^^ b = 0) : a = b := by
  have := congrArg (fun z => z ^^^ b) e
  simpa [Nat.xor_assoc] using this
def tb : List Nat := [236, 118, 59, 158, 79, 164, 82, 41, 151, 200, 100, 50, 25, 143, 196, 98, 49, 155, 206, 103, 176, 88, 44, 22, 11, 134, 67, 162, 81, 171, 214, 107, 182, 91, 174, 87, 168, 84, 42, 21, 137, 199, 224, 112, 56, 28, 14, 7, 128, 64, 32, 16, 8, 4, 2, 1]
def T (x : Nat) : Nat := synd (one x)
theorem T_eq : ∀ x < 56, T x = tb.getD x 0 := by decide +kernel
theorem synd_zero : synd (fun _ => false) = 0 := by decide +kernel
theorem tb_ne0 : ∀ x < 56, tb.getD x 0 ≠ 0 := by decide +kernel
theorem tb_ne2 : ∀ x < 56, ∀ y < x, tb.getD x 0 ≠ tb.getD y 0 := by decide +kernel
theorem tb_ne3 : ∀ x < 56, ∀ y < x, (tb.getD x 0 ^^^ tb.getD y 0) ∉ tb := by decide +kernel
def Y (b m : Nat) : Nat := (List.range 8).foldl (fun s j => s ^^^ (if m / 2 ^ j % 2 = 1 then tb.getD (b + j) 0 else 0)) 0
theorem Y_ne0 : ∀ b < 49, ∀ m < 256, m ≠ 0 → Y b m ≠ 0 := by decide +kernel
theorem T_ne0 {x : Nat} (h : x < 56) : T x ≠ 0 := by rw [T_eq x h]; exact tb_ne0 x h
theorem T_ne2 {x y : Nat} (hx : x < 56) (hy : y < 56) (h : x ≠ y) : T x ^^^ T y ≠ 0 := by
  rw [T_eq x hx, T_eq y hy]
  intro e
  have e := xor_zero' e
  rcases Nat.lt_or_gt_of_ne h with z | z
  · exact tb_ne2 y hy x z e.symm
  · exact tb_ne2 x hx y z e
theorem T_ne3 {x y z : Nat} (hx : x < 56) (hy : y < 56) (hz : z < 56) (h : x ≠ y) : T x ^^^ T y ^^^ T z ≠ 0 := by
  rw [T_eq x hx, T_eq y hy, T_eq z hz]
  intro e
  have e := xor_zero' e
  have m : tb.getD z 0 ∈ tb := by
    have hl : z < tb.length := hz
    rw [List.getD_eq_getElem?_getD, List.getElem?_eq_getElem hl]; exact List.getElem_mem hl
  rcases Nat.lt_or_gt_of_ne h with w | w
  · rw [Nat.xor_comm] at e; exact tb_ne3 y hy x w (e ▸ m)
  · exact tb_ne3 x hx y w (e ▸ m)
def ind (L : List Nat) : Nat → Bool := fun i => decide (i ∈ L)
theorem ind1 (x : Nat) : synd (ind [x]) = T x := synd_congr fun j _ => by simp [ind, one]
theorem ind2 {x y : Nat} (h : x ≠ y) : synd (ind [x, y]) = T x ^^^ T y := by
  rw [show T x ^^^ T y = synd (xorE (one x) (one y)) from (synd_lin _ _).symm]
  refine synd_congr fun j _ => ?_
  by_cases a : j = x
  · subst a; simp [ind, one, h]
  · by_cases b : j = y
    · subst b; simp [ind, one, h.symm]
    · simp [ind, one, a, b]
theorem ind3 {x y z : Nat} (h : x ≠ y) (h1 : z ≠ x) (h2 : z ≠ y) : synd (ind [x, y, z]) = T x ^^^ T y ^^^ T z := by
  rw [show T x ^^^ T y ^^^ T z = synd (xorE (xorE (one x) (one y)) (one z)) by rw [synd_lin, synd_lin]; rfl]
  refine synd_congr fun j _ => ?_
  by_cases a : j = x
  · subst a; simp [ind, one, h, h1.symm]
  · by_cases b : j = y
    · subst b; simp [ind, one, h.symm, h2.symm]
    · by_cases c : j = z
      · subst c; simp [ind, one, h1, h2]
      · simp [ind, one, a, b, c]
theorem ind_congr {L M : List Nat} (h : ∀ i, i ∈ L ↔ i ∈ M) : synd (ind L) = synd (ind M) := synd_congr fun j _ => by simp [ind, h j]
theorem synd_small {L : List Nat} (h0 : L ≠ []) (h3 : L.length ≤ 3) (hL : ∀ x ∈ L, x < 56) : synd (ind L) ≠ 0 := by
  match L, h0, h3, hL with
  | [x], _, _, hL => rw [ind1]; exact T_ne0 (hL x (by simp))
  | [x, y], _, _, hL =>
    by_cases h : x = y
    · subst h; rw [ind_congr (M := [x]) (by simp), ind1]; exact T_ne0 (hL x (by simp))
    · rw [ind2 h]; exact T_ne2 (hL x (by simp)) (hL y (by simp)) h
  | [x, y, z], _, _, hL =>
    have hx := hL x (by simp); have hy := hL y (by simp); have hz := hL z (by simp)
    by_cases h : x = y
    · subst h
      by_cases h1 : x = z
      · subst h1; rw [ind_congr (M := [x]) (by simp), ind1]; exact T_ne0 hx
      · rw [ind_congr (M := [x, z]) (by simp), ind2 h1]; exact T_ne2 hx hz h1
    · by_cases h1 : z = x
      · subst h1; rw [ind_congr (M := [z, y]) (by intro i; simp; omega), ind2 h]; exact T_ne2 hx hy h
      · by_cases h2 : z = y
        · subst h2; rw [ind_congr (M := [x, z]) (by intro i; simp), ind2 h]; exact T_ne2 hx hy h
        · rw [ind3 h h1 h2]; exact T_ne3 hx hy hz h
  | _ :: _ :: _ :: _ :: _, _, h, _ => simp at h
def part (E : Nat → Bool) (b n : Nat) : Nat → Bool := fun i => E i && decide (b ≤ i ∧ i < b + n)
def XE (E : Nat → Bool) (b : Nat) : Nat → Nat
  | 0 => 0
  | n + 1 => XE E b n ^^^ (if E (b + n) then T (b + n) else 0)
theorem synd_part (E : Nat → Bool) (b : Nat) : ∀ n, synd (part E b n) = XE E b n
  | 0 => by
    rw [show synd (part E b 0) = synd (fun _ => false) from synd_congr fun j _ => by simp [part]]
    exact synd_zero
  | n + 1 => by
    rw [XE, ← synd_part E b n]
    by_cases e : E (b + n) = true
    · rw [if_pos e, show synd (part E b n) ^^^ T (b + n) = synd (xorE (part E b n) (one (b + n))) from (synd_lin _ _).symm]
      refine synd_congr fun j _ => ?_
      by_cases h : j = b + n
      · subst h; simp [part, one, e]
      · have e1 : one (b + n) j = false := by simp [one, h]
        show part E b (n + 1) j = (part E b n j ^^ one (b + n) j)
        rw [e1, Bool.xor_false]
        unfold part
        congr 1
        simp only [decide_eq_decide]
        omega
    · have e : E (b + n) = false := by simpa using e
      rw [if_neg (by simp [e]), Nat.xor_zero]
      refine synd_congr fun j _ => ?_
      by_cases h : j = b + n
      · subst h; simp [part, e]
      · unfold part
        congr 1
        simp only [decide_eq_decide]
        omega
def mOf (E : Nat → Bool) (b : Nat) : Nat := (E b).toNat + 2 * (E (b + 1)).toNat + 4 * (E (b + 2)).toNat + 8 * (E (b + 3)).toNat + 16 * (E (b + 4)).toNat + 32 * (E (b + 5)).toNat + 64 * (E (b + 6)).toNat + 128 * (E (b + 7)).toNat
theorem tn (b : Bool) : (b.toNat = 1 ∧ b = true) ∨ (b.toNat = 0 ∧ b = false) := by cases b <;> simp
theorem mOf_bit (E : Nat → Bool) (b : Nat) : ∀ j < 8, (mOf E b / 2 ^ j % 2 = 1) ↔ E (b + j) = true := by
  have h0 := tn (E b); have h1 := tn (E (b + 1)); have h2 := tn (E (b + 2)); have h3 := tn (E (b + 3)); have h4 := tn (E (b + 4)); have h5 := tn (E (b + 5)); have h6 := tn (E (b + 6)); have h7 := tn (E (b + 7))
  intro j hj
  unfold mOf
  rcases (by omega : j = 0 ∨ j = 1 ∨ j = 2 ∨ j = 3 ∨ j = 4 ∨ j = 5 ∨ j = 6 ∨ j = 7) with rfl | rfl | rfl | rfl | rfl | rfl | rfl | rfl
  · rcases h0 with ⟨a, c⟩ | ⟨a, c⟩ <;> simp only [Nat.add_zero, a, c] <;> simp <;> omega
  · rcases h1 with ⟨a, c⟩ | ⟨a, c⟩ <;> simp only [a, c] <;> simp <;> omega
  · rcases h2 with ⟨a, c⟩ | ⟨a, c⟩ <;> simp only [a, c] <;> simp <;> omega
  · rcases h3 with ⟨a, c⟩ | ⟨a, c⟩ <;> simp only [a, c] <;> simp <;> omega
  · rcases h4 with ⟨a, c⟩ | ⟨a, c⟩ <;> simp only [a, c] <;> simp <;> omega
  · rcases h5 with ⟨a, c⟩ | ⟨a, c⟩ <;> simp only [a, c] <;> simp <;> omega
  · rcases h6 with ⟨a, c⟩ | ⟨a, c⟩ <;> simp only [a, c] <;> simp <;> omega
  · rcases h7 with ⟨a, c⟩ | ⟨a, c⟩ <;> simp only [a, c] <;> simp <;> omega
theorem XE_Y (E : Nat → Bool) {b : Nat} (hb : b < 49) : XE E b 8 = Y b (mOf E b) := by
  have h := mOf_bit E b
  have t : ∀ j < 8, (if E (b + j) = true then T (b + j) else 0) = (if mOf E b / 2 ^ j % 2 = 1 then tb.getD (b + j) 0 else 0) := fun j hj => by
    by_cases e : E (b + j) = true
    · rw [if_pos e, if_pos ((h j hj).mpr e), T_eq _ (by omega)]
    · rw [if_neg e, if_neg fun z => e ((h j hj).mp z)]
  have y : Y b (mOf E b) = (((((((0 ^^^ (if mOf E b / 2 ^ 0 % 2 = 1 then tb.getD (b + 0) 0 else 0)) ^^^ (if mOf E b / 2 ^ 1 % 2 = 1 then tb.getD (b + 1) 0 else 0)) ^^^ (if mOf E b / 2 ^ 2 % 2 = 1 then tb.getD (b + 2) 0 else 0)) ^^^ (if mOf E b / 2 ^ 3 % 2 = 1 then tb.getD (b + 3) 0 else 0)) ^^^ (if mOf E b / 2 ^ 4 % 2 = 1 then tb.getD (b + 4) 0 else 0)) ^^^ (if mOf E b / 2 ^ 5 % 2 = 1 then tb.getD (b + 5) 0 else 0)) ^^^ (if mOf E b / 2 ^ 6 % 2 = 1 then tb.getD (b + 6) 0 else 0)) ^^^ (if mOf E b / 2 ^ 7 % 2 = 1 then tb.getD (b + 7) 0 else 0) := rfl
  rw [y, ← t 0 (by decide), ← t 1 (by decide), ← t 2 (by decide), ← t 3 (by decide), ← t 4 (by decide), ← t 5 (by decide), ← t 6 (by decide), ← t 7 (by decide)]
  rfl
theorem synd_burst {L : List Nat} {b : Nat} (h0 : L ≠ []) (hb : b < 49) (hL : ∀ x ∈ L, b ≤ x ∧ x < b + 8) : synd (ind L) ≠ 0 := by
  rw [show synd (ind L) = synd (part (ind L) b 8) from synd_congr fun j _ => by
    unfold part ind
    by_cases h : j ∈ L
    · simp [h, hL j h]
    · simp [h], synd_part, XE_Y _ hb]
  have hm : mOf (ind L) b < 256 := by
    have h0 := toNat_lt (ind L b); have h1 := toNat_lt (ind L (b + 1)); have h2 := toNat_lt (ind L (b + 2)); have h3 := toNat_lt (ind L (b + 3)); have h4 := toNat_lt (ind L (b + 4)); have h5 := toNat_lt (ind L (b + 5)); have h6 := toNat_lt (ind L (b + 6)); have h7 := toNat_lt (ind L (b + 7))
    unfold mOf; omega
  refine Y_ne0 b hb _ hm fun e => ?_
  match L, h0, hL with
  | x :: r, _, hL =>
    have hx := hL x (by simp)
    have q := (mOf_bit (ind (x :: r)) b (x - b) (by omega)).mpr (by rw [show b + (x - b) = x by omega]; simp [ind])
    rw [e] at q
    simp at q
/-- a cell of which some bits are turned has a wrong check -/
theorem turned_bad {load : List Int} {E : Nat → Bool} (hl : load.length = 48) (hb : ∀ x ∈ load, isBit x) (h : synd E ≠ 0) :
    (flipL E 0 (load ++ fixL 8 (chk load))).drop 48 ≠ fixL 8 (chk ((flipL E 0 (load ++ fixL 8 (chk load))).take 48)) := by
  rw [flipL_append, hl, Nat.zero_add, List.drop_left' (by rw [flipL_len, hl]), List.take_left' (by rw [flipL_len, hl]), flip_fix]
  have e1 : chk (flipL E 0 load) = chk load ^^^ cfE E 0 0 48 := by
    have := cf_flip E load 0 0 0 (by decide) (by decide) hb
    rw [hl] at this
    exact this
  rw [e1]
  intro e
  have l1 : maskN E 48 8 < 256 := by
    have h0 := toNat_lt (E (48 + 0)); have h1 := toNat_lt (E (48 + 1)); have h2 := toNat_lt (E (48 + 2)); have h3 := toNat_lt (E (48 + 3)); have h4 := toNat_lt (E (48 + 4)); have h5 := toNat_lt (E (48 + 5)); have h6 := toNat_lt (E (48 + 6)); have h7 := toNat_lt (E (48 + 7))
    simp only [maskN]; omega
  have l2 : cfE E 0 0 48 < 256 := by
    have : ∀ n d i, d < 256 → cfE E d i n < 256 := by
      intro n
      induction n with
      | zero => intro d i h; exact h
      | succ n ih => intro d i _; exact ih _ _ (stp_lt _ _)
    exact this 48 0 0 (by decide)
  have e2 := congrArg numL e
  rw [num_fixL 8 _ (Nat.xor_lt_two_pow (n := 8) (chk_lt _) l1), num_fixL 8 _ (Nat.xor_lt_two_pow (n := 8) (chk_lt _) l2)] at e2
  have e3 : chk load ^^^ maskN E 48 8 = chk load ^^^ cfE E 0 0 48 := Int.ofNat.inj e2
  have e4 : maskN E 48 8 = cfE E 0 0 48 := by
    have := congrArg (fun z => chk load ^^^ z) e3
    simpa [← Nat.xor_assoc] using this
  exact h (by unfold synd; rw [e4, Nat.xor_self])
end SecCrc
/-! ### codes of counts -/
theorem pad_ok {i : Int} (h : 0 ≤ i ∧ i ≤ 10000) : PadOk i = true := by
  unfold PadOk fitsSsize Builtin.Str.tooLong
  have e : sizeLine = 16777216 := by decide
  simp [e]
  omega
/-- how many binary digits a number has -/
def blen (n : Nat) : Nat := if n = 0 then 0 else n.log2 + 1
theorem blen_lt (n : Nat) : n < 2 ^ blen n := by
  unfold blen
  split
  · subst_vars; decide
  · exact (Nat.log2_lt (by assumption)).mp (Nat.lt_succ_self _)
theorem intBits_blen {n : Int} (h : 0 ≤ n) : (Builtin.Int.intBits n : Nat) = blen n.toNat := by
  unfold Builtin.Int.intBits blen
  by_cases e : n = 0
  · subst e; rfl
  · rw [if_neg (by simpa using e), if_neg (by omega), show n.natAbs = n.toNat by omega]
theorem blen_le {n k : Nat} (h : n < 2 ^ k) : blen n ≤ k := by
  unfold blen
  split
  · omega
  · exact (Nat.log2_lt (by assumption)).mpr h
theorem blen_pos {n : Nat} (h : 0 < n) : 0 < blen n := by unfold blen; rw [if_neg (by omega)]; omega
/-- the code of a count -/
def countL (n : Nat) : List Int := List.replicate (blen (n + 1) - 1) 0 ++ fixL (blen (n + 1)) (n + 1)
def sgn (n : Int) : Nat := if 0 ≤ n then (2 * n).toNat else (-2 * n - 1).toNat
theorem fixL_head {w n : Nat} (h1 : 2 ^ w ≤ n) (h2 : n < 2 ^ (w + 1)) : ∃ t, fixL (w + 1) n = 1 :: t ∧ t.length = w := by
  have e := fixL_at (w + 1) n 0 (by omega)
  have d : n / 2 ^ w = 1 := by
    have a : 1 ≤ n / 2 ^ w := (Nat.le_div_iff_mul_le (Nat.two_pow_pos w)).mpr (by omega)
    have b : n / 2 ^ w < 2 := (Nat.div_lt_iff_lt_mul (Nat.two_pow_pos w)).mpr (by rw [Nat.pow_succ] at h2; omega)
    omega
  rw [show w + 1 - 1 - 0 = w by omega, d] at e
  have hl := fixL_len (w + 1) n
  match h : fixL (w + 1) n with
  | [] => rw [h] at hl; simp at hl
  | x :: t =>
    rw [h] at e hl
    have : x = 1 := by simpa using e
    subst this
    exact ⟨t, rfl, by simpa using hl⟩
/-- the code of a count: so many noughts, a one, as many digits -/
theorem countL_form (c : Nat) (hc : c ≤ 2199023255550) : ∃ (z : Nat) (t : List Int), countL c = List.replicate z 0 ++ 1 :: t ∧ t.length = z ∧ z ≤ 40 ∧ numL (1 :: t) = (c : Int) + 1 ∧ ∀ x ∈ t, isBit x := by
  have hp := blen_pos (n := c + 1) (by omega)
  have h2 := blen_lt (c + 1)
  have h1 : 2 ^ (blen (c + 1) - 1) ≤ c + 1 := by
    unfold blen
    rw [if_neg (by omega)]
    exact (Nat.le_log2 (by omega)).mp (Nat.le_refl _)
  have h3 : blen (c + 1) ≤ 41 := blen_le (by omega)
  have e : blen (c + 1) = (blen (c + 1) - 1) + 1 := by omega
  rw [e] at h2
  obtain ⟨t, ht, hl⟩ := fixL_head h1 h2
  refine ⟨blen (c + 1) - 1, t, ?_, hl, by omega, ?_, fun x hx => ?_⟩
  · unfold countL
    rw [← ht, ← e]
  · rw [← ht, num_fixL _ _ h2]; simp
  · exact fixL_bit _ _ x (ht ▸ List.mem_cons_of_mem _ hx)
theorem countL_len (c : Nat) (hc : c ≤ 2199023255550) : (countL c).length ≤ 81 := by
  obtain ⟨z, t, h, hl, hz, _⟩ := countL_form c hc
  rw [h]; simp [hl]; omega
theorem countL_bit (c : Nat) (hc : c ≤ 2199023255550) : ∀ x ∈ countL c, isBit x := by
  obtain ⟨z, t, h, hl, hz, _, hb⟩ := countL_form c hc
  intro x hx
  rw [h] at hx
  rcases List.mem_append.mp hx with hx | hx
  · exact .inl (List.eq_of_mem_replicate hx)
  · rcases List.mem_cons.mp hx with rfl | hx
    · exact .inr rfl
    · exact hb x hx
/-- noughts from a place on -/
def zrun (bs : List Int) (a : Nat) : Nat := ((bs.drop a).takeWhile fun b => decide (b = 0)).length
/-- what is read at a place -/
def cntR (bs : List Int) (a : Nat) : List V :=
  if 40 < min 41 (zrun bs a) then [.str "long"] else if bs.length < a + min 41 (zrun bs a) + min 41 (zrun bs a) + 1 then [.str "short"]
  else [.str "read", .int (numL ((bs.drop (a + min 41 (zrun bs a))).take (min 41 (zrun bs a) + 1)) - 1), .int ((a + min 41 (zrun bs a) + min 41 (zrun bs a) + 1 : Nat) : Int)]
theorem tw_at {p : Int → Bool} : ∀ (l : List Int) (j : Nat), j < (l.takeWhile p).length → ∃ x, l[j]? = some x ∧ p x = true
  | [], j, h => by simp at h
  | y :: l, j, h => by
    rw [List.takeWhile_cons] at h
    by_cases e : p y = true
    · rw [if_pos e] at h
      cases j with
      | zero => exact ⟨y, rfl, e⟩
      | succ j => exact tw_at l j (by simpa using h)
    · rw [if_neg e] at h; simp at h
theorem tw_end {p : Int → Bool} : ∀ (l : List Int) (x : Int), l[(l.takeWhile p).length]? = some x → p x = false
  | [], x, h => by simp at h
  | y :: l, x, h => by
    rw [List.takeWhile_cons] at h
    by_cases e : p y = true
    · rw [if_pos e] at h
      exact tw_end l x (by simpa using h)
    · rw [if_neg e] at h
      have : y = x := by simpa using h
      subst this
      simpa using e
theorem zrun_at {bs : List Int} {a j : Nat} (h : j < zrun bs a) : bs[a + j]? = some 0 := by
  obtain ⟨x, e, hx⟩ := tw_at (bs.drop a) j h
  rw [List.getElem?_drop] at e
  rw [e]; simpa using hx
theorem zrun_end {bs : List Int} {a : Nat} : bs[a + zrun bs a]? ≠ some 0 := fun e => by
  have := tw_end (p := fun b => decide (b = 0)) (bs.drop a) 0 (by rw [List.getElem?_drop]; exact e)
  simp at this
theorem zrun_le {bs : List Int} {a : Nat} (h : a ≤ bs.length) : a + zrun bs a ≤ bs.length := by
  have : zrun bs a ≤ (bs.drop a).length := (List.takeWhile_sublist _).length_le
  simp at this; omega
theorem tw_rep (z : Nat) (r : List Int) (h : ∀ x, r[0]? = some x → x ≠ 0) : ((List.replicate z (0 : Int) ++ r).takeWhile fun b => decide (b = 0)).length = z := by
  induction z with
  | zero =>
    cases r with
    | nil => simp
    | cons x r => have := h x rfl; simp [this]
  | succ z ih => rw [List.replicate_succ, List.cons_append, List.takeWhile_cons, if_pos (by simp), List.length_cons, ih]
theorem cntR_code {c : Nat} (hc : c ≤ 2199023255550) (A B : List Int) : cntR (A ++ countL c ++ B) A.length = [.str "read", .int c, .int ((A.length + (countL c).length : Nat) : Int)] := by
  obtain ⟨z, t, h, hl, hz, hn, _⟩ := countL_form c hc
  have e : A ++ countL c ++ B = A ++ (List.replicate z 0 ++ (1 :: (t ++ B))) := by rw [h]; simp
  have hzr : zrun (A ++ countL c ++ B) A.length = z := by
    unfold zrun
    rw [e, List.drop_left]
    exact tw_rep z _ (by simp)
  have hlen : (countL c).length = z + (z + 1) := by rw [h]; simp [hl]
  unfold cntR
  rw [hzr, Nat.min_eq_right (by omega), if_neg (by omega), if_neg (by simp [hlen]; omega)]
  congr 2
  · congr 1
    rw [e, show A.length + z = (A ++ List.replicate z (0 : Int)).length by simp, ← List.append_assoc, List.drop_left, show (1 : Int) :: (t ++ B) = (1 :: t) ++ B from rfl, List.take_left' (by simp [hl]), hn]
    omega
  · rw [hlen, show A.length + z + z + 1 = A.length + (z + (z + 1)) by omega]
theorem cntR_short {c : Nat} (hc : c ≤ 2199023255550) (A : List Int) {k : Nat} (hk : k < (countL c).length) : cntR (A ++ (countL c).take k) A.length = [.str "short"] := by
  obtain ⟨z, t, h, hl, hz, hn, _⟩ := countL_form c hc
  have hlen : (countL c).length = z + (z + 1) := by rw [h]; simp [hl]
  have hzr : zrun (A ++ (countL c).take k) A.length = min k z := by
    unfold zrun
    rw [List.drop_left, h]
    by_cases hkz : k ≤ z
    · rw [List.take_append_of_le_length (by simp; omega), List.take_replicate, Nat.min_eq_left hkz]
      have := tw_rep k [] (by simp)
      simpa using this
    · rw [List.take_append, List.take_of_length_le (by simp; omega), Nat.min_eq_right (by omega)]
      refine tw_rep z _ fun x hx => ?_
      rw [List.length_replicate, show k - z = (k - z - 1) + 1 by omega, List.take_succ_cons] at hx
      have : (1 : Int) = x := by simpa using hx
      omega
  unfold cntR
  rw [hzr, if_neg (by omega), if_pos]
  simp; omega
/-! ### lists cut up -/
section CutS
variable {α β : Type}
def chunk (k : Nat) (xs : List α) : List (List α) := if h : xs = [] ∨ k = 0 then [] else xs.take k :: chunk k (xs.drop k)
termination_by xs.length
decreasing_by
  have : xs.length ≠ 0 := fun z => h (.inl (List.eq_nil_of_length_eq_zero z))
  rw [List.length_drop]; omega
theorem chunk_nil (k : Nat) : chunk k ([] : List α) = [] := by rw [chunk]; simp
theorem chunk_cons {k : Nat} {xs : List α} (hk : 0 < k) (hx : xs ≠ []) : chunk k xs = xs.take k :: chunk k (xs.drop k) := by
  rw [chunk, dif_neg (by rintro (h | h); exact hx h; omega)]
/-- by the length -/
theorem len_ind {P : List α → Prop} {k : Nat} (hk : 0 < k) (h0 : P []) (h1 : ∀ xs, xs ≠ [] → P (xs.drop k) → P xs) : ∀ xs, P xs := by
  intro xs
  generalize hn : xs.length = n
  induction n using Nat.strongRecOn generalizing xs with
  | _ n ih =>
    cases xs with
    | nil => exact h0
    | cons x r =>
      refine h1 _ (by simp) (ih ((x :: r).drop k).length ?_ _ rfl)
      rw [List.length_drop, hn]
      simp at hn; omega
theorem chunk_len {k : Nat} (hk : 0 < k) (xs : List α) : (chunk k xs).length = (xs.length + k - 1) / k := by
  refine len_ind (P := fun xs => (chunk k xs).length = (xs.length + k - 1) / k) hk ?_ (fun xs hx ih => ?_) xs
  · rw [chunk_nil]; simp; rw [Nat.div_eq_of_lt (by omega)]
  · have hl : 0 < xs.length := List.length_pos_iff.mpr hx
    rw [chunk_cons hk hx, List.length_cons, ih, List.length_drop]
    by_cases h : k ≤ xs.length
    · rw [show xs.length + k - 1 = (xs.length - k + k - 1) + k by omega, Nat.add_div_right _ hk]
    · rw [show xs.length - k = 0 by omega, Nat.div_eq_of_lt (by omega)]
      rw [show xs.length + k - 1 = (xs.length - 1) + k by omega, Nat.add_div_right _ hk, Nat.div_eq_of_lt (by omega)]
theorem chunk_get {k : Nat} (hk : 0 < k) (xs : List α) : ∀ i, i < (chunk k xs).length → (chunk k xs)[i]? = some ((xs.drop (i * k)).take k) := by
  refine len_ind (P := fun xs => ∀ i, i < (chunk k xs).length → (chunk k xs)[i]? = some ((xs.drop (i * k)).take k)) hk ?_ (fun xs hx ih => ?_) xs
  · rw [chunk_nil]; intro i h; simp at h
  · rw [chunk_cons hk hx]
    intro i hi
    cases i with
    | zero => simp
    | succ i =>
      rw [List.getElem?_cons_succ, ih i (by simpa using hi), List.drop_drop, show k + i * k = (i + 1) * k by rw [Nat.succ_mul]; omega]
theorem chunk_flatten {k : Nat} (hk : 0 < k) (xs : List α) : (chunk k xs).flatten = xs := by
  refine len_ind (P := fun xs => (chunk k xs).flatten = xs) hk ?_ (fun xs hx ih => ?_) xs
  · rw [chunk_nil]; rfl
  · rw [chunk_cons hk hx, List.flatten_cons, ih, List.take_append_drop]
theorem chunk_map {k : Nat} (hk : 0 < k) (f : α → β) (xs : List α) : chunk k (xs.map f) = (chunk k xs).map (·.map f) := by
  refine len_ind (P := fun xs => chunk k (xs.map f) = (chunk k xs).map (·.map f)) hk ?_ (fun xs hx ih => ?_) xs
  · simp [chunk_nil]
  · rw [chunk_cons hk hx, chunk_cons hk (by simpa using hx), List.map_cons, ← ih, List.map_take, List.map_drop]
/-- blocks of k things, the last one of k at most -/
def Blk (k : Nat) : List (List α) → Prop
  | [] => True
  | [b] => 0 < b.length ∧ b.length ≤ k
  | b :: r => b.length = k ∧ Blk k r
theorem Blk.cons {k : Nat} {b c : List α} {r : List (List α)} (h : Blk k (b :: c :: r)) : b.length = k ∧ Blk k (c :: r) := h
theorem chunk_blk {k : Nat} (hk : 0 < k) (xs : List α) : Blk k (chunk k xs) := by
  refine len_ind (P := fun xs => Blk k (chunk k xs)) hk ?_ (fun xs hx ih => ?_) xs
  · rw [chunk_nil]; trivial
  · rw [chunk_cons hk hx]
    have hl : 0 < xs.length := List.length_pos_iff.mpr hx
    cases h : chunk k (xs.drop k) with
    | nil => refine ⟨?_, ?_⟩ <;> rw [List.length_take] <;> omega
    | cons c r =>
      rw [h] at ih
      refine ⟨?_, ih⟩
      have : xs.drop k ≠ [] := fun z => by rw [z, chunk_nil] at h; cases h
      have := List.length_pos_iff.mpr this
      rw [List.length_drop] at this
      rw [List.length_take]; omega
theorem chunk_blocks {k : Nat} (hk : 0 < k) : ∀ bs : List (List α), Blk k bs → chunk k bs.flatten = bs
  | [], _ => chunk_nil k
  | [b], h => by
    have h : 0 < b.length ∧ b.length ≤ k := h
    have hb : b ≠ [] := List.length_pos_iff.mp h.1
    rw [List.flatten_cons, List.flatten_nil, List.append_nil, chunk_cons hk hb, List.take_of_length_le h.2, List.drop_of_length_le h.2, chunk_nil]
  | b :: c :: r, h => by
    have h2 := h.cons
    have hb : b ≠ [] := List.length_pos_iff.mp (by omega)
    rw [List.flatten_cons, chunk_cons hk (by simp [hb]), List.take_left' h2.1, List.drop_left' h2.1, chunk_blocks hk (c :: r) h2.2]
theorem Blk.map {k : Nat} (m : Nat) (f : List α → List β) (hf : ∀ b, (f b).length = b.length + m) : ∀ bs : List (List α), Blk k bs → Blk (k + m) (bs.map f)
  | [], _ => trivial
  | [b], h => by
    have h : 0 < b.length ∧ b.length ≤ k := h
    show 0 < (f b).length ∧ (f b).length ≤ k + m
    rw [hf]; omega
  | b :: c :: r, h => by
    have h2 := h.cons
    refine ⟨by rw [hf, h2.1], ?_⟩
    exact Blk.map m f hf (c :: r) h2.2
/-- the size divides: all blocks are whole -/
theorem chunk_whole {k : Nat} (hk : 0 < k) (xs : List α) : ∀ n, xs.length = n * k → ∀ b ∈ chunk k xs, b.length = k := by
  refine len_ind (P := fun xs => ∀ n, xs.length = n * k → ∀ b ∈ chunk k xs, b.length = k) hk ?_ (fun xs hx ih => ?_) xs
  · rw [chunk_nil]; intro n _ b hb; cases hb
  · intro n hn b hb
    have hl : 0 < xs.length := List.length_pos_iff.mpr hx
    have hn0 : n ≠ 0 := fun z => by rw [z] at hn; omega
    obtain ⟨m, rfl⟩ : ∃ m, n = m + 1 := ⟨n - 1, by omega⟩
    rw [Nat.succ_mul] at hn
    rw [chunk_cons hk hx] at hb
    rcases List.mem_cons.mp hb with rfl | hb
    · rw [List.length_take]; omega
    · exact ih m (by rw [List.length_drop]; omega) b hb
theorem Blk.whole {k : Nat} (hk : 0 < k) : ∀ bs : List (List α), (∀ b ∈ bs, b.length = k) → Blk k bs
  | [], _ => trivial
  | [b], h => by
    have := h b (by simp)
    exact ⟨by omega, by omega⟩
  | b :: c :: r, h => ⟨h b (by simp), Blk.whole hk (c :: r) fun x hx => h x (List.mem_cons_of_mem _ hx)⟩
end CutS
/-! ### cells -/
def isBits (l : List Int) : Prop := ∀ x ∈ l, isBit x
/-- the exclusive-or of some loads -/
def sumC (ls : List (List Int)) : List Int := (List.range 48).map fun i => (ls.map fun l => l.getD i 0).sum % 2
def cellC (l : List Int) : List Int := l ++ fixL 8 (chk l)
def padC (t : List Int) : List Int := t ++ List.replicate ((48 - t.length % 48) % 48) 0
def toldC (bs : List Int) : List Int := countL bs.length ++ bs
def loadsC (bs : List Int) : List (List Int) := chunk 48 (padC (toldC bs))
def grpC (s : List (List Int)) : List (List Int) := (s ++ [sumC s]).map cellC
def cellsC (g : Nat) (ls : List (List Int)) : List (List Int) := ((chunk g ls).map grpC).flatten
def protC (g : Nat) (bs : List Int) : List Int := (cellsC g (loadsC bs)).flatten
theorem sumC_len (ls : List (List Int)) : (sumC ls).length = 48 := by simp [sumC]
theorem sumC_bits (ls : List (List Int)) : isBits (sumC ls) := fun x hx => by
  unfold sumC at hx
  obtain ⟨i, _, rfl⟩ := List.mem_map.mp hx
  unfold isBit; omega
theorem xorB {a b : Int} (ha : isBit a) (hb : isBit b) : Builtin.bitXor a b = (a + b) % 2 := by
  rcases ha with rfl | rfl <;> rcases hb with rfl | rfl <;> decide +kernel
theorem sumC_one {l : List Int} (hl : l.length = 48) (hb : isBits l) : sumC [l] = l := by
  unfold sumC
  refine List.ext_getElem (by simp [hl]) fun i h1 h2 => ?_
  simp [List.getD_eq_getElem?_getD, List.getElem?_eq_getElem h2]
  rcases hb l[i] (List.getElem_mem h2) with e | e <;> rw [e] <;> decide
theorem sumC_snoc {ls : List (List Int)} {l : List Int} (i : Nat) (hi : i < 48) (hl : l.length = 48) : (sumC (ls ++ [l]))[i]? = some ((((sumC ls).getD i 0) + l.getD i 0) % 2) := by
  unfold sumC
  rw [List.getElem?_map, List.getElem?_range hi]
  simp [List.getD_eq_getElem?_getD, List.getElem?_range hi]
theorem cellC_len {l : List Int} (h : l.length = 48) : (cellC l).length = 56 := by simp [cellC, h, fixL_len]
theorem cellC_take {l : List Int} (h : l.length = 48) : (cellC l).take 48 = l := List.take_left' h
theorem cellC_drop {l : List Int} (h : l.length = 48) : (cellC l).drop 48 = fixL 8 (chk l) := List.drop_left' h
theorem cellC_bits {l : List Int} (h : isBits l) : isBits (cellC l) := fun x hx => (List.mem_append.mp hx).elim (h x) (fixL_bit _ _ x)
theorem padC_len (t : List Int) : ∃ n, (padC t).length = n * 48 := by
  unfold padC
  rw [List.length_append, List.length_replicate]
  have h := Nat.div_add_mod t.length 48
  have : t.length % 48 < 48 := Nat.mod_lt _ (by decide)
  by_cases z : t.length % 48 = 0
  · exact ⟨t.length / 48, by rw [z]; simp; omega⟩
  · exact ⟨t.length / 48 + 1, by rw [Nat.mod_eq_of_lt (by omega : 48 - t.length % 48 < 48)]; omega⟩
theorem padC_bits {t : List Int} (h : isBits t) : isBits (padC t) := fun x hx => (List.mem_append.mp hx).elim (h x) fun z => .inl (List.eq_of_mem_replicate z)
theorem toldC_bits {bs : List Int} (hb : isBits bs) (hl : bs.length ≤ 1000000) : isBits (toldC bs) := fun x hx => (List.mem_append.mp hx).elim (countL_bit _ (by omega) x) (hb x)
theorem loads_ok {bs : List Int} (hb : isBits bs) (hl : bs.length ≤ 1000000) : ∀ l ∈ loadsC bs, l.length = 48 ∧ isBits l := fun l hm => by
  obtain ⟨n, hn⟩ := padC_len (toldC bs)
  refine ⟨chunk_whole (by decide) _ n hn l hm, fun x hx => ?_⟩
  refine padC_bits (toldC_bits hb hl) x ?_
  rw [← chunk_flatten (k := 48) (by decide) (padC (toldC bs))]
  exact List.mem_flatten.mpr ⟨l, hm, hx⟩
theorem loads_flat (bs : List Int) : (loadsC bs).flatten = padC (toldC bs) := chunk_flatten (by decide) _
theorem chunk_mem {α : Type} {k : Nat} (hk : 0 < k) {xs : List α} {c : List α} {x : α} (hc : c ∈ chunk k xs) (hx : x ∈ c) : x ∈ xs := by
  rw [← chunk_flatten hk xs]; exact List.mem_flatten.mpr ⟨c, hc, hx⟩
theorem grp_ok {g : Nat} (hg : 0 < g) {ls : List (List Int)} (h : ∀ l ∈ ls, l.length = 48 ∧ isBits l) : ∀ s ∈ chunk g ls, ∀ l ∈ s ++ [sumC s], l.length = 48 ∧ isBits l := fun s hs l hm => by
  rcases List.mem_append.mp hm with hm | hm
  · exact h l (chunk_mem hg hs hm)
  · rw [List.mem_singleton.mp hm]; exact ⟨sumC_len _, sumC_bits _⟩
/-- protected bits, cut into cells and groups again -/
theorem prot_cells {g : Nat} (hg : 0 < g) {ls : List (List Int)} (h : ∀ l ∈ ls, l.length = 48 ∧ isBits l) : chunk 56 (cellsC g ls).flatten = cellsC g ls := by
  refine chunk_blocks (by decide) _ (Blk.whole (by decide) _ fun c hc => ?_)
  unfold cellsC at hc
  obtain ⟨b, hb, hc⟩ := List.mem_flatten.mp hc
  obtain ⟨s, hs, rfl⟩ := List.mem_map.mp hb
  obtain ⟨l, hl, rfl⟩ := List.mem_map.mp hc
  exact cellC_len (grp_ok hg h s hs l hl).1
theorem prot_groups {g : Nat} (hg : 0 < g) (ls : List (List Int)) : chunk (g + 1) (cellsC g ls) = (chunk g ls).map grpC :=
  chunk_blocks (by omega) _ (Blk.map 1 grpC (fun b => by simp [grpC]) _ (chunk_blk hg ls))
theorem Blk.mod {α : Type} {k : Nat} (hk : 2 ≤ k) : ∀ bs : List (List α), Blk k bs → bs ≠ [] → (∀ b ∈ bs, 2 ≤ b.length) → bs.flatten.length % k ≠ 1
  | [], _, h, _ => absurd rfl h
  | [b], h, _, h2 => by
    have h : 0 < b.length ∧ b.length ≤ k := h
    have := h2 b (by simp)
    rw [List.flatten_cons, List.flatten_nil, List.append_nil]
    by_cases e : b.length = k
    · rw [e, Nat.mod_self]; decide
    · rw [Nat.mod_eq_of_lt (by omega)]; omega
  | b :: c :: r, h, _, h2 => by
    have h3 := h.cons
    have ih := Blk.mod hk (c :: r) h3.2 (by simp) fun x hx => h2 x (List.mem_cons_of_mem _ hx)
    rw [List.flatten_cons, List.length_append, h3.1, Nat.add_mod_left]
    exact ih
theorem blk_pos {α : Type} {k : Nat} (hk : 0 < k) : ∀ bs : List (List α), Blk k bs → ∀ b ∈ bs, 0 < b.length
  | [], _, _, h => by cases h
  | [x], h, b, hb => by
    have h : 0 < x.length ∧ x.length ≤ k := h
    rw [List.mem_singleton.mp hb]; exact h.1
  | x :: y :: r, h, b, hb => by
    have h2 := h.cons
    rcases List.mem_cons.mp hb with rfl | hb
    · omega
    · exact blk_pos hk (y :: r) h2.2 b hb
theorem chunk_ne {α : Type} {k : Nat} (hk : 0 < k) {xs : List α} (h : xs ≠ []) : chunk k xs ≠ [] := by rw [chunk_cons hk h]; simp
theorem cells_mod {g : Nat} (hg : 0 < g) {L : List (List Int)} (h : L ≠ []) : (cellsC g L).length % (g + 1) ≠ 1 := by
  refine Blk.mod (by omega) _ (Blk.map 1 grpC (fun b => by simp [grpC]) _ (chunk_blk hg L)) (by simpa using chunk_ne hg h) fun b hb => ?_
  obtain ⟨s, hs, rfl⟩ := List.mem_map.mp hb
  have := blk_pos hg _ (chunk_blk hg L) s hs
  simp [grpC]; omega
theorem cells_pos {g : Nat} (hg : 0 < g) {L : List (List Int)} (h : L ≠ []) : 0 < (cellsC g L).length := by
  cases e : (cellsC g L).length with
  | succ n => omega
  | zero =>
    have hc := chunk_ne hg h
    unfold cellsC at e
    cases z : chunk g L with
    | nil => exact absurd z hc
    | cons s r => rw [z] at e; simp [grpC] at e
theorem cells_mem {g : Nat} (hg : 0 < g) {L : List (List Int)} (h : ∀ l ∈ L, l.length = 48 ∧ isBits l) : ∀ c ∈ cellsC g L, c.length = 56 ∧ isBits c := fun c hc => by
  unfold cellsC at hc
  obtain ⟨b, hb, hc⟩ := List.mem_flatten.mp hc
  obtain ⟨s, hs, rfl⟩ := List.mem_map.mp hb
  obtain ⟨l, hl, rfl⟩ := List.mem_map.mp hc
  have := grp_ok hg h s hs l hl
  exact ⟨cellC_len this.1, cellC_bits this.2⟩
theorem flat_len {α : Type} {k : Nat} : ∀ bs : List (List α), (∀ b ∈ bs, b.length = k) → bs.flatten.length = bs.length * k
  | [], _ => by simp
  | b :: r, h => by
    rw [List.flatten_cons, List.length_append, flat_len r fun x hx => h x (List.mem_cons_of_mem _ hx), h b (by simp), List.length_cons, Nat.succ_mul]; omega
theorem flat_bits : ∀ bs : List (List Int), (∀ b ∈ bs, isBits b) → isBits bs.flatten := fun bs h x hx => by
  obtain ⟨b, hb, hx⟩ := List.mem_flatten.mp hx
  exact h b hb x hx
theorem cells_le {g : Nat} (hg : 0 < g) (L : List (List Int)) : (cellsC g L).length ≤ 2 * L.length := by
  unfold cellsC
  have h : ∀ bs : List (List (List Int)), (∀ b ∈ bs, 0 < b.length) → ((bs.map grpC).flatten).length ≤ 2 * bs.flatten.length := by
    intro bs
    induction bs with
    | nil => intro _; simp
    | cons b r ih =>
      intro hb
      have h1 := hb b (by simp)
      have h2 := ih fun x hx => hb x (List.mem_cons_of_mem _ hx)
      rw [List.map_cons, List.flatten_cons, List.flatten_cons, List.length_append, List.length_append]
      have : (grpC b).length = b.length + 1 := by simp [grpC]
      omega
  have := h _ (blk_pos hg _ (chunk_blk hg L))
  rwa [chunk_flatten hg] at this
theorem pre_len {α : Type} {k : Nat} (hk : 0 < k) (xs : List α) (i : Nat) : ((chunk k xs).take i).flatten.length ≤ xs.length := by
  have h := congrArg List.length (chunk_flatten hk xs)
  rw [← List.take_append_drop i (chunk k xs), List.flatten_append, List.length_append] at h
  omega
theorem countL_length (n : Nat) : (countL n).length = blen (n + 1) - 1 + blen (n + 1) := by simp [countL, fixL_len]
theorem padC_length (t : List Int) : (padC t).length = t.length + (48 - t.length % 48) % 48 := by simp [padC]
theorem loads_length (bs : List Int) : (loadsC bs).length = ((toldC bs).length + 47) / 48 := by
  rw [loadsC, chunk_len (by decide), padC_length]
  omega
theorem toldC_length (bs : List Int) : (toldC bs).length = (countL bs.length).length + bs.length := by simp [toldC]
theorem countL_short {n : Nat} (h : n ≤ 400) : (countL n).length ≤ 17 := by
  have : blen (n + 1) ≤ 9 := blen_le (by omega)
  rw [countL_length]; omega
theorem loads_first {bs : List Int} (h : bs.length ≤ 400) : ∃ B, (loadsC bs)[0]? = some (countL bs.length ++ B) := by
  have h0 : 0 < (countL bs.length).length := by
    have := blen_pos (n := bs.length + 1) (by omega)
    rw [countL_length]; omega
  have hl := toldC_length bs
  have hc := countL_short h
  have h1 : 0 < (loadsC bs).length := by rw [loads_length]; omega
  have := chunk_get (k := 48) (by decide) (padC (toldC bs)) 0 h1
  refine ⟨(bs ++ List.replicate ((48 - (toldC bs).length % 48) % 48) 0).take (48 - (countL bs.length).length), ?_⟩
  rw [loadsC, this, Nat.zero_mul, List.drop_zero, padC, toldC, List.append_assoc, List.take_append, List.take_of_length_le (by omega)]
theorem told_cut (bs : List Int) : ((padC (toldC bs)).drop (countL bs.length).length).take bs.length = bs := by
  rw [padC, toldC, List.append_assoc, List.drop_left, List.take_left]
theorem told_rest (bs : List Int) : (padC (toldC bs)).drop ((countL bs.length).length + bs.length) = List.replicate ((48 - (toldC bs).length % 48) % 48) 0 := by
  rw [padC, ← toldC_length, List.drop_left]
/-! ### the check by long division -/
theorem numL_cons (b : Int) (xs : List Int) : numL (b :: xs) = b * 2 ^ xs.length + numL xs := by
  have h : ∀ (xs : List Int) (a : Int), xs.foldl (fun a b => 2 * a + b) a = a * 2 ^ xs.length + xs.foldl (fun a b => 2 * a + b) 0 := by
    intro xs
    induction xs with
    | nil => intro a; simp
    | cons x r ih =>
      intro a
      rw [List.foldl_cons, List.foldl_cons, ih (2 * a + x), ih (2 * 0 + x), List.length_cons, Int.pow_succ]
      rw [Int.add_mul, Int.add_mul]
      simp
      rw [Int.mul_comm 2 a, Int.mul_assoc, Int.mul_comm 2 ((2 : Int) ^ r.length)]
      omega
  unfold numL
  rw [List.foldl_cons, h xs (2 * 0 + b)]
  simp
def numN : List Int → Nat
  | [] => 0
  | b :: r => b.toNat * 2 ^ r.length + numN r
theorem numN_lt : ∀ xs : List Int, isBits xs → numN xs < 2 ^ xs.length
  | [], _ => by decide
  | b :: r, h => by
    have ih := numN_lt r fun x hx => h x (List.mem_cons_of_mem _ hx)
    rw [numN, List.length_cons, Nat.pow_succ]
    rcases h b (by simp) with rfl | rfl
    · simp; omega
    · simp; omega
theorem numN_eq : ∀ xs : List Int, isBits xs → numL xs = (numN xs : Int)
  | [], _ => rfl
  | b :: r, h => by
    rw [numL_cons, numN, numN_eq r fun x hx => h x (List.mem_cons_of_mem _ hx)]
    rcases h b (by simp) with rfl | rfl <;> simp
def DN (h : Nat) (xs : List Int) : Nat := (h * 2 ^ xs.length) ^^^ (256 * numN xs)
theorem xor_shift (a b m : Nat) : (a ^^^ b) * 2 ^ m = a * 2 ^ m ^^^ b * 2 ^ m := by
  rw [← Nat.shiftLeft_eq, ← Nat.shiftLeft_eq, ← Nat.shiftLeft_eq, Nat.shiftLeft_xor_distrib]
theorem add_xor {a c k : Nat} (h : c < 2 ^ k) : a * 2 ^ k + c = a * 2 ^ k ^^^ c := by
  refine Nat.eq_of_testBit_eq fun j => ?_
  rw [Nat.testBit_xor, Nat.mul_comm a, Nat.testBit_two_pow_mul_add a h j, Nat.testBit_two_pow_mul]
  by_cases hj : j < k
  · simp [hj, show ¬ k ≤ j by omega]
  · have : c.testBit j = false := Nat.testBit_lt_two_pow (Nat.lt_of_lt_of_le h (Nat.pow_le_pow_right (by decide) (by omega)))
    simp [hj, this, show k ≤ j by omega]
theorem stp_div : ∀ h < 256, ∀ b < 2, 2 * h ^^^ 256 * b = stp h b ^^^ (if (h / 128) ^^^ b = 1 then 263 else 0) := by decide +kernel
theorem DN_lt {h : Nat} {xs : List Int} (hh : h < 256) (hx : isBits xs) : DN h xs < 2 ^ (xs.length + 8) := by
  have h2 := numN_lt xs hx
  refine Nat.xor_lt_two_pow ?_ ?_
  · rw [Nat.pow_add, Nat.mul_comm]
    exact Nat.mul_lt_mul_of_pos_left (by omega) (Nat.two_pow_pos _)
  · rw [Nat.pow_add, show (2 : Nat) ^ 8 = 256 by decide]; omega
theorem DN_step {h : Nat} {b : Int} {xs : List Int} (hh : h < 256) (hb : isBit b) (hx : isBits xs) :
    DN h (b :: xs) = DN (stp h b.toNat) xs ^^^ ((if (h / 128) ^^^ b.toNat = 1 then 263 else 0) * 2 ^ xs.length) := by
  have h2 := numN_lt xs hx
  unfold DN
  rw [List.length_cons, numN]
  have e1 : h * 2 ^ (xs.length + 1) = 2 * h * 2 ^ xs.length := by rw [Nat.pow_succ, Nat.mul_comm 2 h, Nat.mul_assoc, Nat.mul_comm 2]
  have e2 : 256 * (b.toNat * 2 ^ xs.length + numN xs) = 256 * b.toNat * 2 ^ xs.length ^^^ 256 * numN xs := by
    have e3 : 256 * b.toNat * 2 ^ xs.length = b.toNat * 2 ^ (xs.length + 8) := by rw [Nat.pow_add, show (2 : Nat) ^ 8 = 256 by decide, Nat.mul_comm 256, Nat.mul_assoc, Nat.mul_comm 256]
    rw [Nat.mul_add, ← Nat.mul_assoc, e3]
    exact add_xor (by rw [Nat.pow_add, show (2 : Nat) ^ 8 = 256 by decide]; omega)
  rw [e1, e2, ← Nat.xor_assoc, ← xor_shift, stp_div h hh b.toNat (bit_lt hb), xor_shift, Nat.xor_assoc, Nat.xor_assoc, Nat.xor_comm (_ * 2 ^ xs.length) (256 * numN xs)]
theorem DN_bit {h : Nat} {b : Int} {xs : List Int} (hh : h < 256) (hb : isBit b) (hx : isBits xs) : (DN h (b :: xs) / 2 ^ (xs.length + 8) % 2 = 1) ↔ ((h / 128) ^^^ b.toNat = 1) := by
  rw [DN_step hh hb hx]
  have hlt := DN_lt (h := stp h b.toNat) (stp_lt _ _) hx
  have t1 : (DN (stp h b.toNat) xs).testBit (xs.length + 8) = false := Nat.testBit_lt_two_pow hlt
  have key : (DN (stp h b.toNat) xs ^^^ ((if (h / 128) ^^^ b.toNat = 1 then 263 else 0) * 2 ^ xs.length)).testBit (xs.length + 8) = decide ((h / 128) ^^^ b.toNat = 1) := by
    rw [Nat.testBit_xor, t1, Nat.mul_comm, Nat.testBit_two_pow_mul]
    by_cases c : (h / 128) ^^^ b.toNat = 1
    · rw [if_pos c]; simp [c]; decide
    · rw [if_neg c]; simp [c]
  rw [Nat.testBit_eq_decide_div_mod_eq] at key
  by_cases c : (h / 128) ^^^ b.toNat = 1
  · rw [decide_eq_true c] at key
    exact ⟨fun _ => c, fun _ => of_decide_eq_true key⟩
  · rw [decide_eq_false c] at key
    exact ⟨fun z => absurd z (of_decide_eq_false key), fun z => absurd z c⟩
open PySem L2
/-! one step that needs no thought -/
local macro_rules | `(tactic| walk_at "cond") => `(tactic| first
  | decide
  | exact .inl ⟨by decide, by decide⟩
  | exact .inr ⟨by decide, by decide⟩
  | exact ⟨by decide, by decide⟩
  | exact ⟨by decide, by decide, by decide⟩
  | assumption
  | (show (0 : Int) < _; omega)
  | (show (0 : Int) ≤ _; omega)
  | exact .inl ⟨by omega, by omega⟩
  | exact .inr ⟨by omega, by omega⟩
  | exact ⟨by omega, by omega⟩
  | exact ⟨by omega, by omega, by omega⟩)
local macro_rules | `(tactic| walk_at "sq") => `(tactic| first
  | assumption
  | exact SqL.of (by assumption)
  | exact SqT.of (by assumption)
  | exact SqL.of upd_same
  | exact SqT.of upd_same)
local macro_rules | `(tactic| walk_at "r1") => `(tactic| first
  | (with_reducible refine s_seq ?_)
  | (with_reducible refine s_next ?_)
  | (with_reducible refine s_asg ?_)
  | (with_reducible refine s_gname ?_)
  | (with_reducible refine s_ret ?_)
  | (with_reducible refine s_if ?_)
  | (with_reducible refine s_drop ?_)
  | (with_reducible refine s_op ?_)
  | (with_reducible refine s_c ?_)
  | (with_reducible refine s_tup ?_)
  | (with_reducible refine s_lst ?_)
  | (with_reducible refine s_nil ?_)
  | (with_reducible refine s_cons ?_)
  | (with_reducible refine s_call ?_)
  | (with_reducible refine s_cb ?_)
  | (with_reducible refine s_test ?_)
  | (with_reducible refine s_tB ?_)
  | (with_reducible refine s_b ?_)
  | (with_reducible refine s_not ?_)
  | (with_reducible refine s_and ?_)
  | (with_reducible refine s_or ?_)
  | (with_reducible refine s_un ?_)
  | (with_reducible refine s_U ?_)
  | (with_reducible refine s_ifE ?_)
  | (with_reducible refine s_andV0 ?_)
  | (with_reducible refine s_orV0 ?_)
  | (with_reducible refine s_notV ?_)
  | (with_reducible refine s_I0 ?_)
  | (with_reducible refine s_chain ?_)
  | (with_reducible refine s_par3 ?_)
  | (with_reducible refine s_par ?_)
  | (with_reducible refine s_v2 ?_)
  | (with_reducible refine s_v3 ?_)
  | (with_reducible refine s_eqI ?_)
  | (with_reducible refine s_neI ?_)
  | (with_reducible refine s_eqS ?_)
  | (with_reducible refine s_neS ?_)
  | (with_reducible refine s_max2 ?_)
  | (with_reducible refine s_min2 ?_)
  | (with_reducible refine s_int1 ?_)
  | (with_reducible refine s_int1b ?_)
  | ((with_reducible refine' s_var ?h ?q); (case h => rfl))
  | (with_reducible refine s_for ?_)
  | (with_reducible refine s_iR1 ?_)
  | (with_reducible refine s_iR2 ?_)
  | (with_reducible refine s_iR3 ?_)
  | (with_reducible refine s_sl ?_)
  | (with_reducible refine s_part ?_)
  | (with_reducible refine s_nopart ?_)
  | (with_reducible refine s_iL ?_)
  | (with_reducible refine s_iT ?_)
  | (with_reducible refine s_iS ?_)
  | (with_reducible refine s_lc ?_)
  | (with_reducible refine s_yes ?_)
  | ((with_reducible refine' s_wipe ?h ?q); (case h => rfl))
  | (with_reducible refine s_callK0 ?_)
  | (with_reducible refine s_bits ?_)
  | (with_reducible refine s_i ?_)
  | (with_reducible refine s_bm ?_)
  | (with_reducible refine s_bm0 ?_)
  | (with_reducible refine s_m1 ?_)
  | (with_reducible refine s_callK ?_)
  | (with_reducible refine s_gsub ?_)
  | ((with_reducible refine' s_gtup ?h ?e ?q); (case h => walk_at "sq"); (case e => rfl))
  | (with_reducible refine s_gcons ?_)
  | (with_reducible refine s_gnil ?_)
  | ((with_reducible refine s_I ?c ?q); (case c => walk_at "cond"))
  | ((with_reducible refine' s_ixL ?h ?a ?q); (case h => walk_at "sq"); (case a => rfl))
  | ((with_reducible refine' s_ixT ?h ?a ?q); (case h => walk_at "sq"); (case a => rfl))
  | ((with_reducible refine' s_setL ?h ?a ?q); (case h => first | assumption | exact upd_same); (case a => rfl))
  | ((with_reducible refine' s_len ?h ?q); (case h => walk_at "sq"))
  | ((with_reducible refine' s_lenT ?h ?q); (case h => walk_at "sq"))
  | (with_reducible refine iteT ?_)
  | (with_reducible refine iteF ?_)
  | (with_reducible refine itNF ?_)
  | (with_reducible refine itNT ?_))
local macro_rules | `(tactic| walk_at "r") => `(tactic| (repeat walk_at "r1"))
local macro_rules | `(tactic| walk_at "r1") => `(tactic| (with_reducible refine s_fmtB ?_))
local macro_rules | `(tactic| walk_at "r1") => `(tactic| (with_reducible refine s_callS ?_))
def topS (i : Nat) : Stmt := PySem.Challenge.pw_narrowingbits_k60_cells_laid_out.main.body.getD i (.Pass ⟨0, 0, 0, 0⟩)
structure Zs (K : PySem.W.Frag) (mg : Str → Option Value) : Prop where
  z_bool : mg "bool" = none
  z_divmod : mg "divmod" = none
  z_enumerate : mg "enumerate" = none
  z_int : mg "int" = none
  z_isinstance : mg "isinstance" = none
  z_len : mg "len" = none
  z_list : mg "list" = none
  z_max : mg "max" = none
  z_min : mg "min" = none
  z_range : mg "range" = none
  z_sum : mg "sum" = none
  z_zip : mg "zip" = none
  e_CELL_SIZE : ∃ t, mg "CELL_SIZE" = some (.int (56) t)
  e_CHECK_SIZE : ∃ t, mg "CHECK_SIZE" = some (.int (8) t)
  e_HIGHEST : ∃ t, mg "HIGHEST" = some (.int (128) t)
  e_LOAD_SIZE : ∃ t, mg "LOAD_SIZE" = some (.int (48) t)
  e_MOST_BITS : ∃ t, mg "MOST_BITS" = some (.int (1000000) t)
  e_MOST_COUNT : ∃ t, mg "MOST_COUNT" = some (.int (2199023255550) t)
  e_MOST_GROUP : ∃ t, mg "MOST_GROUP" = some (.int (8) t)
  e_MOST_ZEROS : ∃ t, mg "MOST_ZEROS" = some (.int (40) t)
  e_STATES : ∃ t, mg "STATES" = some (.int (256) t)
  e_TURN : ∃ t, mg "TURN" = some (.int (7) t)
  x_BadBits : ExF K mg "BadBits"
  x_BadCells : ExF K mg "BadCells"
  x_Great : ExF K mg "Great"
  x_NarrowError : ExF K mg "NarrowError"
  x_Outside : ExF K mg "Outside"
  s_BadBits_BadBits : PySem.W.subIn K (.ref (exA mg "BadBits")) (.ref (exA mg "BadBits")) = some true
  k_BadBits_BadBits : PySem.W.kitOne K (.ref (exA mg "BadBits")) (.ref (exA mg "BadBits")) = some true
  s_BadBits_BadCells : PySem.W.subIn K (.ref (exA mg "BadBits")) (.ref (exA mg "BadCells")) = some false
  k_BadBits_BadCells : PySem.W.kitOne K (.ref (exA mg "BadBits")) (.ref (exA mg "BadCells")) = some false
  s_BadBits_Great : PySem.W.subIn K (.ref (exA mg "BadBits")) (.ref (exA mg "Great")) = some false
  k_BadBits_Great : PySem.W.kitOne K (.ref (exA mg "BadBits")) (.ref (exA mg "Great")) = some false
  s_BadBits_NarrowError : PySem.W.subIn K (.ref (exA mg "BadBits")) (.ref (exA mg "NarrowError")) = some true
  k_BadBits_NarrowError : PySem.W.kitOne K (.ref (exA mg "BadBits")) (.ref (exA mg "NarrowError")) = some true
  s_BadBits_Outside : PySem.W.subIn K (.ref (exA mg "BadBits")) (.ref (exA mg "Outside")) = some false
  k_BadBits_Outside : PySem.W.kitOne K (.ref (exA mg "BadBits")) (.ref (exA mg "Outside")) = some false
  s_BadCells_BadBits : PySem.W.subIn K (.ref (exA mg "BadCells")) (.ref (exA mg "BadBits")) = some false
  k_BadCells_BadBits : PySem.W.kitOne K (.ref (exA mg "BadCells")) (.ref (exA mg "BadBits")) = some false
  s_BadCells_BadCells : PySem.W.subIn K (.ref (exA mg "BadCells")) (.ref (exA mg "BadCells")) = some true
  k_BadCells_BadCells : PySem.W.kitOne K (.ref (exA mg "BadCells")) (.ref (exA mg "BadCells")) = some true
  s_BadCells_Great : PySem.W.subIn K (.ref (exA mg "BadCells")) (.ref (exA mg "Great")) = some false
  k_BadCells_Great : PySem.W.kitOne K (.ref (exA mg "BadCells")) (.ref (exA mg "Great")) = some false
  s_BadCells_NarrowError : PySem.W.subIn K (.ref (exA mg "BadCells")) (.ref (exA mg "NarrowError")) = some true
  k_BadCells_NarrowError : PySem.W.kitOne K (.ref (exA mg "BadCells")) (.ref (exA mg "NarrowError")) = some true
  s_BadCells_Outside : PySem.W.subIn K (.ref (exA mg "BadCells")) (.ref (exA mg "Outside")) = some false
  k_BadCells_Outside : PySem.W.kitOne K (.ref (exA mg "BadCells")) (.ref (exA mg "Outside")) = some false
  s_Great_BadBits : PySem.W.subIn K (.ref (exA mg "Great")) (.ref (exA mg "BadBits")) = some false
  k_Great_BadBits : PySem.W.kitOne K (.ref (exA mg "Great")) (.ref (exA mg "BadBits")) = some false
  s_Great_BadCells : PySem.W.subIn K (.ref (exA mg "Great")) (.ref (exA mg "BadCells")) = some false
  k_Great_BadCells : PySem.W.kitOne K (.ref (exA mg "Great")) (.ref (exA mg "BadCells")) = some false
  s_Great_Great : PySem.W.subIn K (.ref (exA mg "Great")) (.ref (exA mg "Great")) = some true
  k_Great_Great : PySem.W.kitOne K (.ref (exA mg "Great")) (.ref (exA mg "Great")) = some true
  s_Great_NarrowError : PySem.W.subIn K (.ref (exA mg "Great")) (.ref (exA mg "NarrowError")) = some true
  k_Great_NarrowError : PySem.W.kitOne K (.ref (exA mg "Great")) (.ref (exA mg "NarrowError")) = some true
  s_Great_Outside : PySem.W.subIn K (.ref (exA mg "Great")) (.ref (exA mg "Outside")) = some false
  k_Great_Outside : PySem.W.kitOne K (.ref (exA mg "Great")) (.ref (exA mg "Outside")) = some false
  s_NarrowError_BadBits : PySem.W.subIn K (.ref (exA mg "NarrowError")) (.ref (exA mg "BadBits")) = some false
  k_NarrowError_BadBits : PySem.W.kitOne K (.ref (exA mg "NarrowError")) (.ref (exA mg "BadBits")) = some false
  s_NarrowError_BadCells : PySem.W.subIn K (.ref (exA mg "NarrowError")) (.ref (exA mg "BadCells")) = some false
  k_NarrowError_BadCells : PySem.W.kitOne K (.ref (exA mg "NarrowError")) (.ref (exA mg "BadCells")) = some false
  s_NarrowError_Great : PySem.W.subIn K (.ref (exA mg "NarrowError")) (.ref (exA mg "Great")) = some false
  k_NarrowError_Great : PySem.W.kitOne K (.ref (exA mg "NarrowError")) (.ref (exA mg "Great")) = some false
  s_NarrowError_NarrowError : PySem.W.subIn K (.ref (exA mg "NarrowError")) (.ref (exA mg "NarrowError")) = some true
  k_NarrowError_NarrowError : PySem.W.kitOne K (.ref (exA mg "NarrowError")) (.ref (exA mg "NarrowError")) = some true
  s_NarrowError_Outside : PySem.W.subIn K (.ref (exA mg "NarrowError")) (.ref (exA mg "Outside")) = some false
  k_NarrowError_Outside : PySem.W.kitOne K (.ref (exA mg "NarrowError")) (.ref (exA mg "Outside")) = some false
  s_Outside_BadBits : PySem.W.subIn K (.ref (exA mg "Outside")) (.ref (exA mg "BadBits")) = some false
  k_Outside_BadBits : PySem.W.kitOne K (.ref (exA mg "Outside")) (.ref (exA mg "BadBits")) = some false
  s_Outside_BadCells : PySem.W.subIn K (.ref (exA mg "Outside")) (.ref (exA mg "BadCells")) = some false
  k_Outside_BadCells : PySem.W.kitOne K (.ref (exA mg "Outside")) (.ref (exA mg "BadCells")) = some false
  s_Outside_Great : PySem.W.subIn K (.ref (exA mg "Outside")) (.ref (exA mg "Great")) = some false
  k_Outside_Great : PySem.W.kitOne K (.ref (exA mg "Outside")) (.ref (exA mg "Great")) = some false
  s_Outside_NarrowError : PySem.W.subIn K (.ref (exA mg "Outside")) (.ref (exA mg "NarrowError")) = some true
  k_Outside_NarrowError : PySem.W.kitOne K (.ref (exA mg "Outside")) (.ref (exA mg "NarrowError")) = some true
  s_Outside_Outside : PySem.W.subIn K (.ref (exA mg "Outside")) (.ref (exA mg "Outside")) = some true
  k_Outside_Outside : PySem.W.kitOne K (.ref (exA mg "Outside")) (.ref (exA mg "Outside")) = some true
theorem Zs.c_CELL_SIZE {K : PySem.W.Frag} {mg : Str → Option Value} (Z : Zs K mg) : mg "CELL_SIZE" = some (.int (56) (Classical.choose Z.e_CELL_SIZE)) := Classical.choose_spec Z.e_CELL_SIZE
theorem Zs.c_CHECK_SIZE {K : PySem.W.Frag} {mg : Str → Option Value} (Z : Zs K mg) : mg "CHECK_SIZE" = some (.int (8) (Classical.choose Z.e_CHECK_SIZE)) := Classical.choose_spec Z.e_CHECK_SIZE
theorem Zs.c_HIGHEST {K : PySem.W.Frag} {mg : Str → Option Value} (Z : Zs K mg) : mg "HIGHEST" = some (.int (128) (Classical.choose Z.e_HIGHEST)) := Classical.choose_spec Z.e_HIGHEST
theorem Zs.c_LOAD_SIZE {K : PySem.W.Frag} {mg : Str → Option Value} (Z : Zs K mg) : mg "LOAD_SIZE" = some (.int (48) (Classical.choose Z.e_LOAD_SIZE)) := Classical.choose_spec Z.e_LOAD_SIZE
theorem Zs.c_MOST_BITS {K : PySem.W.Frag} {mg : Str → Option Value} (Z : Zs K mg) : mg "MOST_BITS" = some (.int (1000000) (Classical.choose Z.e_MOST_BITS)) := Classical.choose_spec Z.e_MOST_BITS
theorem Zs.c_MOST_COUNT {K : PySem.W.Frag} {mg : Str → Option Value} (Z : Zs K mg) : mg "MOST_COUNT" = some (.int (2199023255550) (Classical.choose Z.e_MOST_COUNT)) := Classical.choose_spec Z.e_MOST_COUNT
theorem Zs.c_MOST_GROUP {K : PySem.W.Frag} {mg : Str → Option Value} (Z : Zs K mg) : mg "MOST_GROUP" = some (.int (8) (Classical.choose Z.e_MOST_GROUP)) := Classical.choose_spec Z.e_MOST_GROUP
theorem Zs.c_MOST_ZEROS {K : PySem.W.Frag} {mg : Str → Option Value} (Z : Zs K mg) : mg "MOST_ZEROS" = some (.int (40) (Classical.choose Z.e_MOST_ZEROS)) := Classical.choose_spec Z.e_MOST_ZEROS
theorem Zs.c_STATES {K : PySem.W.Frag} {mg : Str → Option Value} (Z : Zs K mg) : mg "STATES" = some (.int (256) (Classical.choose Z.e_STATES)) := Classical.choose_spec Z.e_STATES
theorem Zs.c_TURN {K : PySem.W.Frag} {mg : Str → Option Value} (Z : Zs K mg) : mg "TURN" = some (.int (7) (Classical.choose Z.e_TURN)) := Classical.choose_spec Z.e_TURN
/-! ### the promises -/
def gK2 {α : Type} (us ws : List α) : List α := match us, ws with
  | [], [a, b] => [b, a]
  | _, _ => []
/-- two keywords, the second one first -/
theorem _root_.L2.Fun.kbinds2 {K : PySem.W.Frag} {x qual : Str} {st : Stmt} {f : Addr} {fd : FuncData} {ps : List Str} (F : Fun K x qual st f fd) (ks : List Str) (hn : ps.length = 2)
    (h : ∀ (kV doc pm : Value) (an : Option Addr) (cdv ct : Value) (a b : Value), bindArgs (PySem.W.fnOf x qual (defArgs st) (defBody st) (defScope st) .none kV doc pm an cdv ct) ⟨[], ks.zip [a, b]⟩ = pure (ps.zip [b, a])) :
    KBinds K fd ps ks gK2 gK2 := by
  obtain ⟨oc, od, kV, doc, pm, an, cdv, ct, osl, rfl, lk, hcd⟩ := F.ex
  refine ⟨fun s us ws _ hl => ?_, fun {vs us zs ws} r rz => ?_⟩
  · match us, ws, hl with
    | [], [a, b], _ => exact .of_eq (h kV doc pm an cdv ct a b)
    | [], [], hl => exact absurd (show 0 = ps.length from hl) (by omega)
    | [], [_], hl => exact absurd (show 0 = ps.length from hl) (by omega)
    | [], _ :: _ :: _ :: _, hl => exact absurd (show 0 = ps.length from hl) (by omega)
    | _ :: _, _, hl => exact absurd (show 0 = ps.length from hl) (by omega)
  · cases r with
    | cons _ _ => exact .nil
    | nil =>
      cases rz with
      | nil => exact .nil
      | cons r1 rz =>
        cases rz with
        | nil => exact .nil
        | cons r2 rz =>
          cases rz with
          | nil => exact .cons r2 (.cons r1 .nil)
          | cons _ _ => exact .nil
def bitsV (w n : Nat) : List V := (fixL w n).map V.int
abbrev Bits (bs : List Int) : Prop := isBits bs
theorem c_sum {X : Cx} (K : PySem.W.Frag) (e : X.K = K) (hc : X.calm = true) : CallR X (.builtin "sum") (rSum K) := by subst e; exact cr_sum hc
def goodI (b : Int) : Bool := decide (0 ≤ b) && decide (b ≤ 1)
theorem s_iZ {K : PySem.W.Frag} {σ : L2.St} {H : Hp} {ta : TA} {R : It → Hp → Prop} (h : ta σ H fun vs H1 => ∃ a b xs ys, vs = [.ref a, .ref b] ∧ SqL K H1 a xs ∧ SqL K H1 b ys ∧ R (Itz K a b) H1) : iZip K ta σ H R := h
theorem s_iE {K : PySem.W.Frag} {σ : L2.St} {H : Hp} {ta : TA} {R : It → Hp → Prop} (h : ta σ H fun vs H1 => ∃ a xs, vs = [.ref a] ∧ SqL K H1 a xs ∧ R (Ite K a) H1) : iEnum K ta σ H R := h
/-- lists that stand -/
inductive LV (H : Hp) : List V → List (List V) → Prop
  | nil : LV H [] []
  | cons {a : Addr} {l : List V} {vs : List V} {ls : List (List V)} : H a = some (.lst l) → LV H vs ls → LV H (.ref a :: vs) (l :: ls)
abbrev RL (H : Hp) (vs : List V) (ls : List (List Int)) : Prop := LV H vs (ls.map (·.map V.int))
theorem LV.mono {H H' : Hp} (s : Same H H') : ∀ {vs : List V} {ls : List (List V)}, LV H vs ls → LV H' vs ls
  | _, _, .nil => .nil
  | _, _, .cons h r => .cons (s _ _ h) (r.mono s)
theorem LV.len {H : Hp} : ∀ {vs : List V} {ls : List (List V)}, LV H vs ls → vs.length = ls.length
  | _, _, .nil => rfl
  | _, _, .cons _ r => by simp [r.len]
theorem LV.app {H : Hp} {ws : List V} {ms : List (List V)} : ∀ {vs : List V} {ls : List (List V)}, LV H vs ls → LV H ws ms → LV H (vs ++ ws) (ls ++ ms)
  | _, _, .nil, h2 => h2
  | _, _, .cons h r, h2 => .cons h (r.app h2)
theorem LV.snoc {H : Hp} {vs : List V} {ls : List (List V)} {a : Addr} {l : List V} (r : LV H vs ls) (h : H a = some (.lst l)) : LV H (vs ++ [.ref a]) (ls ++ [l]) := r.app (.cons h .nil)
theorem LV.take {H : Hp} : ∀ (n : Nat) {vs : List V} {ls : List (List V)}, LV H vs ls → LV H (vs.take n) (ls.take n)
  | 0, _, _, _ => by simp only [List.take_zero]; exact .nil
  | n + 1, _, _, .nil => .nil
  | n + 1, _, _, .cons h r => .cons h (r.take n)
theorem LV.drop {H : Hp} : ∀ (n : Nat) {vs : List V} {ls : List (List V)}, LV H vs ls → LV H (vs.drop n) (ls.drop n)
  | 0, _, _, r => r
  | n + 1, _, _, .nil => .nil
  | n + 1, _, _, .cons _ r => r.drop n
theorem LV.get {H : Hp} : ∀ {vs : List V} {ls : List (List V)} (i : Nat) {v : V}, LV H vs ls → vs[i]? = some v → ∃ a l, v = .ref a ∧ ls[i]? = some l ∧ H a = some (.lst l)
  | _, _, i, _, .nil, e => by simp at e
  | _, _, 0, _, .cons h _, e => ⟨_, _, (Option.some.inj e).symm, rfl, h⟩
  | _, _, i + 1, _, .cons _ r, e => r.get i e
theorem RL.get {H : Hp} {vs : List V} {ls : List (List Int)} (r : RL H vs ls) (i : Nat) {v : V} (e : vs[i]? = some v) : ∃ a l, v = .ref a ∧ ls[i]? = some l ∧ H a = some (.lst (l.map V.int)) := by
  obtain ⟨a, l, rfl, e2, h⟩ := LV.get i r e
  rw [List.getElem?_map] at e2
  cases z : ls[i]? with
  | none => rw [z] at e2; cases e2
  | some m => rw [z] at e2; cases e2; exact ⟨a, m, rfl, rfl, h⟩
theorem RL.len {H : Hp} {vs : List V} {ls : List (List Int)} (r : RL H vs ls) : vs.length = ls.length := by rw [LV.len r, List.length_map]
theorem RL.take {H : Hp} {vs : List V} {ls : List (List Int)} (n : Nat) (r : RL H vs ls) : RL H (vs.take n) (ls.take n) := by
  have := LV.take n r
  rwa [← List.map_take] at this
theorem RL.drop {H : Hp} {vs : List V} {ls : List (List Int)} (n : Nat) (r : RL H vs ls) : RL H (vs.drop n) (ls.drop n) := by
  have := LV.drop n r
  rwa [← List.map_drop] at this
theorem RL.snoc {H : Hp} {vs : List V} {ls : List (List Int)} {a : Addr} {l : List Int} (r : RL H vs ls) (h : H a = some (.lst (l.map V.int))) : RL H (vs ++ [.ref a]) (ls ++ [l]) := by
  have := LV.snoc r h
  rwa [show (ls.map (·.map V.int)) ++ [l.map V.int] = (ls ++ [l]).map (·.map V.int) by simp] at this
theorem RL.app {H : Hp} {vs ws : List V} {ls ms : List (List Int)} (r : RL H vs ls) (r2 : RL H ws ms) : RL H (vs ++ ws) (ls ++ ms) := by
  have := LV.app r r2
  rwa [← List.map_append] at this
/-- a heap without a cell -/
def delH (H : Hp) (f : Addr) : Hp := fun b => if b = f then none else H b
theorem delH_same (H : Hp) (f : Addr) : Same (delH H f) H := fun b o h => by
  unfold delH at h
  split at h
  · cases h
  · exact h
theorem delH_none (H : Hp) (f : Addr) : delH H f f = none := by simp [delH]
theorem delH_at {H : Hp} {f b : Addr} {o : HO} (h : H b = some o) (n : b ≠ f) : delH H f b = some o := by simp [delH, n, h]
theorem Same.del {F H : Hp} {f : Addr} (s : Same F H) (n : F f = none) : Same F (delH H f) := fun b o h => delH_at (s b o h) (fun e => by rw [e, n] at h; cases h)
def goodL (c : List Int) : Bool := decide (c.drop 48 = fixL 8 (chk (c.take 48)))
theorem all_good {bs : List Int} : bs.all goodI = true ↔ Bits bs := by
  rw [List.all_eq_true]
  refine forall_congr' fun x => forall_congr' fun _ => ?_
  unfold goodI isBit
  simp only [Bool.and_eq_true, decide_eq_true_eq]
  omega
def sp_is_bit (_ : PySem.W.Frag) (_ : Str → Option Value) : Sp := SpN 1 fun vs H Q _ => ∃ b : Int, vs = [.int b] ∧ Q (.bl (goodI b)) H
def sp_check_bits (K : PySem.W.Frag) (mg : Str → Option Value) : Sp := SpN 1 fun vs H Q E => ∃ (a : Addr) (ns : List Int), vs = [.ref a] ∧ SqL K H a (ns.map V.int) ∧
  ((ns.all goodI = true ∧ Q .non H) ∨ (ns.all goodI = false ∧ E (.ref (exA mg "BadBits")) none H))
def sp_fixed (_ : PySem.W.Frag) (_ : Str → Option Value) : Sp := SpN 2 fun vs H Q _ => ∃ (n w : Int), vs = [.int n, .int w] ∧ 0 ≤ n ∧ 0 ≤ w ∧ w ≤ 10000 ∧ n.toNat < 2 ^ w.toNat ∧
  ∀ p H', Same H H' → H p = none → H' p = some (.lst (bitsV w.toNat n.toNat)) → Q (.ref p) H'
def sp_number_of (K : PySem.W.Frag) (_ : Str → Option Value) : Sp := SpN 1 fun vs H Q _ => ∃ (a : Addr) (bs : List Int), vs = [.ref a] ∧ SqL K H a (bs.map V.int) ∧ Q (.int (numL bs)) H
def sp_count_bits (_ : PySem.W.Frag) (mg : Str → Option Value) : Sp := SpN 1 fun vs H Q E => ∃ (n : Int), vs = [.int n] ∧
  ((0 ≤ n ∧ n ≤ 2199023255550 ∧ ∀ p H', Same H H' → H p = none → H' p = some (.lst ((countL n.toNat).map V.int)) → Q (.ref p) H') ∨
   (¬ (0 ≤ n ∧ n ≤ 2199023255550) ∧ E (.ref (exA mg "Great")) none H))
def sp_count_at (K : PySem.W.Frag) (_ : Str → Option Value) : Sp := SpN 2 fun vs H Q _ => ∃ (a : Addr) (bs : List Int) (n : Nat), vs = [.ref a, .int n] ∧ SqL K H a (bs.map V.int) ∧ n ≤ bs.length ∧ bs.length ≤ 10000 ∧
  ∀ p H', Same H H' → H p = none → H' p = some (.tup (cntR bs n)) → Q (.ref p) H'
def sp_check_of (K : PySem.W.Frag) (_ : Str → Option Value) : Sp := SpN 1 fun vs H Q _ => ∃ (a : Addr) (bs : List Int), vs = [.ref a] ∧ SqL K H a (bs.map V.int) ∧ Bits bs ∧
  ∀ p H', Same H H' → H p = none → H' p = some (.lst ((fixL 8 (chk bs)).map V.int)) → Q (.ref p) H'
def sp_want_group (_ : PySem.W.Frag) (mg : Str → Option Value) : Sp := SpN 1 fun vs H Q E => ∃ (g : Int), vs = [.int g] ∧ ((1 ≤ g ∧ g ≤ 8 ∧ Q .non H) ∨ (¬ (1 ≤ g ∧ g ≤ 8) ∧ E (.ref (exA mg "Outside")) none H))
def sp_cut_up (K : PySem.W.Frag) (_ : Str → Option Value) : Sp := SpN 2 fun vs H Q _ => ∃ (F : Hp) (a : Addr) (xs : List V) (k : Nat), vs = [.ref a, .int k] ∧ Same F H ∧ SqL K F a xs ∧ 0 < k ∧ k < 100000 ∧ xs.length < 90000 ∧
  ∀ p F' H' acc, Stp S0 F H F' H' → F' p = some (.lst acc) → LV F' acc (chunk k xs) → Q (.ref p) H'
abbrev Lds (ls : List (List Int)) : Prop := ∀ l ∈ ls, l.length = 48 ∧ isBits l
def sp_sum_of (K : PySem.W.Frag) (_ : Str → Option Value) : Sp := SpN 1 fun vs H Q _ => ∃ (a : Addr) (us : List V) (ls : List (List Int)), vs = [.ref a] ∧ SqL K H a us ∧ RL H us ls ∧ ls ≠ [] ∧ ls.length ≤ 1000 ∧ Lds ls ∧
  ∀ p H', Same H H' → H p = none → H' p = some (.lst ((sumC ls).map V.int)) → Q (.ref p) H'
def sp_cell_of (_ : PySem.W.Frag) (_ : Str → Option Value) : Sp := SpN 1 fun vs H Q _ => ∃ (a : Addr) (l : List Int), vs = [.ref a] ∧ H a = some (.lst (l.map V.int)) ∧ isBits l ∧ l.length ≤ 1000 ∧
  ∀ p H', Same H H' → H p = none → H' p = some (.lst ((cellC l).map V.int)) → Q (.ref p) H'
def sp_protect (_ : PySem.W.Frag) (mg : Str → Option Value) : Sp := SpN 2 fun vs H Q E => ∃ (a : Addr) (ns : List Int) (g : Int), vs = [.ref a, .int g] ∧ H a = some (.lst (ns.map V.int)) ∧ ns.length ≤ 1000 ∧
  ((ns.all goodI = false ∧ E (.ref (exA mg "BadBits")) none H) ∨ (ns.all goodI = true ∧ ¬ (1 ≤ g ∧ g ≤ 8) ∧ E (.ref (exA mg "Outside")) none H) ∨
   (ns.all goodI = true ∧ 1 ≤ g ∧ g ≤ 8 ∧ ∀ p H', Same H H' → H p = none → H' p = some (.lst ((protC g.toNat ns).map V.int)) → Q (.ref p) H'))
def sp_is_good (K : PySem.W.Frag) (_ : Str → Option Value) : Sp := SpN 1 fun vs H Q _ => ∃ (a : Addr) (c : List Int), vs = [.ref a] ∧ SqL K H a (c.map V.int) ∧ Bits c ∧ ∀ H', Same H H' → Q (.bl (goodL c)) H'
def sp_cells_of (K : PySem.W.Frag) (_ : Str → Option Value) : Sp := SpN 2 fun vs H Q _ => ∃ (F : Hp) (a : Addr) (bs : List Int) (g : Int) (n : Nat), vs = [.ref a, .int g] ∧ Same F H ∧ SqL K F a (bs.map V.int) ∧ Bits bs ∧ bs.length = n * 56 ∧ 0 < n ∧ n < 1500 ∧ 1 ≤ g ∧ g ≤ 8 ∧ (n : Int) % (g + 1) ≠ 1 ∧
  ∀ p F' H' acc, Stp S0 F H F' H' → F' p = some (.lst acc) → RL F' acc (chunk 56 bs) → Q (.ref p) H'
def sp_opened_group (K : PySem.W.Frag) (_ : Str → Option Value) : Sp := SpN 1 fun vs H Q _ => ∃ (F : Hp) (a : Addr) (us : List V) (s : List (List Int)), vs = [.ref a] ∧ Same F H ∧ SqL K F a us ∧ RL F us (s.map cellC) ∧ s.length ≤ 9 ∧ Lds s ∧
  ∀ p F' H' acc, Stp S0 F H F' H' → F' p = some (.lst acc) → RL F' acc s.dropLast → Q (.ref p) H'
def sp_count_told (K : PySem.W.Frag) (_ : Str → Option Value) : Sp := SpN 1 fun vs H Q _ => ∃ (a : Addr) (l : List Int) (n p : Nat), vs = [.ref a] ∧ SqL K H a (l.map V.int) ∧ l.length ≤ 1000 ∧ cntR l 0 = [.str "read", .int n, .int p] ∧ n ≤ 1000000 ∧
  ∀ q H', Same H H' → H' q = some (.tup [.int n, .int p]) → Q (.ref q) H'
def sp_open_cells (K : PySem.W.Frag) (_ : Str → Option Value) : Sp := SpN 2 fun vs H Q _ => ∃ (a : Addr) (bs : List Int) (g : Nat), vs = [.ref a, .int g] ∧ SqL K H a ((protC g bs).map V.int) ∧ Bits bs ∧ bs.length ≤ 400 ∧ 1 ≤ g ∧ g ≤ 8 ∧
  ∀ p H', Same H H' → H p = none → H' p = some (.lst (bs.map V.int)) → Q (.ref p) H'
theorem Stp.ofSame {S : Addr → Prop} {F H H' : Hp} (h : Same F H) (s : Same H H') : Stp S F H F H' := ⟨Same.refl F, h.trans s, fun _ _ _ => rfl, fun b o _ e => s b o e, fun b o e => ⟨o, s b o e⟩⟩
theorem cutV_m1 (xs : List V) : cutV xs none (some (-1)) = xs.dropLast := by
  unfold cutV
  show (xs.drop 0).take (HT.sIx xs.length xs.length (some (-1)) - HT.sIx xs.length 0 none) = xs.dropLast
  rw [HT.sIx_none, List.drop_zero, List.dropLast_eq_take]
  congr 1
  show (if (-1 : Int) < 0 then ((-1 : Int) + (xs.length : Int)).toNat else min (-1 : Int).toNat xs.length) - 0 = xs.length - 1
  rw [if_pos (by decide)]
  omega
def sp_law_pool (K : PySem.W.Frag) (_ : Str → Option Value) : Sp := SpN 2 fun vs H Q _ => ∃ (s : Addr) (ns : List Int) (k : Int), vs = [.ref s, .int k] ∧ SqL K H s (ns.map V.int) ∧ 0 ≤ k ∧ k < 100 ∧
  ∀ p H', Src H H' p → Q (.ref p) H'
def sp_law_take (_ : PySem.W.Frag) (_ : Str → Option Value) : Sp := SpN 2 fun vs H Q _ => ∃ (F : Hp) (p : Addr) (t : Int), vs = [.ref p, .int t] ∧ Src F H p ∧ 0 < t ∧ t < 1073741824 ∧
  ∀ r H', Src F H' p → Stp (S1 p) F H F H' → 0 ≤ r → r < t → Q (.int r) H'
def sp_law_one (K : PySem.W.Frag) (_ : Str → Option Value) : Sp := SpN 2 fun vs H Q _ => ∃ (F : Hp) (p q : Addr) (ns : List Int), vs = [.ref p, .ref q] ∧ Src F H p ∧ SqL K F q (ns.map V.int) ∧ 0 < ns.length ∧ ns.length < 1000 ∧
  ∀ r H', Src F H' p → Stp (S1 p) F H F H' → r ∈ ns → Q (.int r) H'
def sp_law_count (_ : PySem.W.Frag) (_ : Str → Option Value) : Sp := SpN 1 fun vs H Q _ => ∃ (n : Nat), vs = [.int n] ∧ n ≤ 1000000 ∧
  ∀ p H', Same H H' → H p = none → H' p = some (.lst ((countL n).map V.int)) → Q (.ref p) H'
def sp_law_check (K : PySem.W.Frag) (_ : Str → Option Value) : Sp := SpN 1 fun vs H Q _ => ∃ (a : Addr) (l : List Int), vs = [.ref a] ∧ SqL K H a (l.map V.int) ∧ l.length = 48 ∧ isBits l ∧
  ∀ p H', Same H H' → H p = none → H' p = some (.lst ((fixL 8 (chk l)).map V.int)) → Q (.ref p) H'
def sp_law_sum (K : PySem.W.Frag) (_ : Str → Option Value) : Sp := SpN 1 fun vs H Q _ => ∃ (a : Addr) (us : List V) (ls : List (List Int)), vs = [.ref a] ∧ SqL K H a us ∧ RL H us ls ∧ ls.length ≤ 1000 ∧ Lds ls ∧
  ∀ p H', Same H H' → H p = none → H' p = some (.lst ((sumC ls).map V.int)) → Q (.ref p) H'
def sp_law_cells (_ : PySem.W.Frag) (_ : Str → Option Value) : Sp := SpN 2 fun vs H Q _ => ∃ (F : Hp) (a : Addr) (us : List V) (ls : List (List Int)) (g : Nat), vs = [.ref a, .int g] ∧ Same F H ∧ F a = some (.lst us) ∧ RL F us ls ∧ ls.length ≤ 1000 ∧ Lds ls ∧ 1 ≤ g ∧ g ≤ 8 ∧
  ∀ p F' H' acc, Stp S0 F H F' H' → F' p = some (.lst acc) → RL F' acc (cellsC g ls) → Q (.ref p) H'
def sp_law_loads (_ : PySem.W.Frag) (_ : Str → Option Value) : Sp := SpN 1 fun vs H Q _ => ∃ (F : Hp) (a : Addr) (t : List Int), vs = [.ref a] ∧ Same F H ∧ F a = some (.lst (t.map V.int)) ∧ t.length ≤ 2000 ∧
  ∀ p F' H' acc, Stp S0 F H F' H' → F' p = some (.lst acc) → RL F' acc (chunk 48 (padC t)) → Q (.ref p) H'
def sp_law_joined (K : PySem.W.Frag) (_ : Str → Option Value) : Sp := SpN 1 fun vs H Q _ => ∃ (a : Addr) (us : List V) (ls : List (List Int)), vs = [.ref a] ∧ SqL K H a us ∧ RL H us ls ∧ ls.length ≤ 1000 ∧ (∀ l ∈ ls, l.length = 56) ∧
  ∀ p H', Same H H' → H p = none → H' p = some (.lst (ls.flatten.map V.int)) → Q (.ref p) H'
def sp_law_bits (_ : PySem.W.Frag) (_ : Str → Option Value) : Sp := SpN 1 fun vs H Q _ => ∃ (F : Hp) (p : Addr), vs = [.ref p] ∧ Src F H p ∧
  ∀ q bs F' H', Src F' H' p → Stp (S1 p) F H F' H' → F' q = some (.lst (bs.map V.int)) → isBits bs → bs.length ≤ 400 → Q (.ref q) H'
def sp_law_heard (_ : PySem.W.Frag) (_ : Str → Option Value) : Sp := SpN 2 fun vs H Q _ => ∃ (a : Addr) (ns : List Int) (g : Int) (s : Str), vs = [.ref a, .int g] ∧ H a = some (.lst (ns.map V.int)) ∧ ns.length ≤ 1000 ∧
  ((ns.all goodI = false ∧ s = "bits") ∨ (ns.all goodI = true ∧ ¬ (1 ≤ g ∧ g ≤ 8) ∧ s = "outside")) ∧ Q (.str s) H
def sp_law_is_plain (_ : PySem.W.Frag) (_ : Str → Option Value) : Sp := SpN 1 fun vs H Q _ => ∃ (a : Addr) (ns : List Int), vs = [.ref a] ∧ H a = some (.lst (ns.map V.int)) ∧ ns.length ≤ 90000 ∧ ∀ H', Same H H' → Q (.bl true) H'
def sp_lawK (K : PySem.W.Frag) : Sp := SpN 1 fun vs H Q _ => ∃ (a : Addr) (ns : List Int), vs = [.ref a] ∧ SqL K H a (ns.map V.int) ∧ ns.length ≤ 63 ∧ ∀ H', Q (.bl true) H'
def sp_law (K : PySem.W.Frag) (_ : Str → Option Value) : Sp := sp_lawK K
theorem law_start {K : PySem.W.Frag} {H : Hp} {a : Addr} {ns : List Int} {E : XK} (hl : ns.length ≤ 63) (hS : SqL K H a (ns.map V.int)) : sp_lawK K [.ref a] H (fun v _ => v = .bl true) E := ⟨rfl, a, ns, rfl, hS, hl, fun _ => rfl⟩
theorem fixL_cons : ∀ (j n : Nat), fixL (j + 1) n = ((n / 2 ^ j % 2 : Nat) : Int) :: fixL j n
  | 0, n => by simp [fixL]
  | j + 1, n => by
    have e : fixL (j + 1 + 1) n = fixL (j + 1) (n / 2) ++ [((n % 2 : Nat) : Int)] := rfl
    rw [e, fixL_cons j (n / 2), Nat.div_div_eq_div_mul, ← Nat.pow_succ']
    rfl
theorem lt_blen {n j : Nat} : j < blen n ↔ 2 ^ j ≤ n := by
  unfold blen
  by_cases h : n = 0
  · subst h; simp
  · rw [if_neg h]
    have := Nat.le_log2 (n := n) (k := j) h
    omega
theorem Src.st0 {F H F' H' : Hp} {p : Addr} (h : Src F H p) (st : Stp S0 F H F' H') : Src F' H' p := let ⟨_, b, x, y, e, z⟩ := h; ⟨st.fh, (st.fo _ _ e).trans b, x, y, st.same _ _ e, z⟩
theorem shaped_flatL {vs : List V} (h : vs.all flatW = true) : SeqAt.shaped (.list (vs.map toD)) = true := by
  have h1 := depthAll_flat vs
  have e : (PyData.list (vs.map toD)).depth = PyData.depthAll (vs.map toD) + 1 := by rw [PyData.depth]
  exact Bool.and_eq_true_iff.mpr ⟨by rw [PyData.canLay0]; exact canLay_flat vs h, decide_eq_true (by rw [e]; omega)⟩
theorem s_neFl {K : PySem.W.Frag} {H : Hp} {Q : VK} {a b : Addr} {vs : List V} (h1 : SqL K H a vs) (h2 : SqL K H b vs) (f : vs.all flatW = true) (q : Q (.bl false) H) : rNeD K (.ref a) (.ref b) H Q :=
  ⟨_, _, .lst h1 (dp_flats f), .lst h2 (dp_flats f), shaped_flatL f, shaped_flatL f, by rw [SeqAt.eqv_refl _ (SeqAt.canLay_of_shaped (shaped_flatL f))]; exact q⟩
theorem at_nat' {xs : List V} {j : Nat} {v : V} (h : xs[j]? = some v) : atI xs (j : Int) = some v := atI_nat h
section
variable {P : Program} {w : World} {K : PySem.W.Frag} {mg : Str → Option Value} {base : Heap}
abbrev s_is_bit : Stmt := topS 9
theorem sc_is_bit : FnScope ["thing"] ["thing"] (defScope s_is_bit) := ⟨rfl, rfl, rfl, by decide +kernel, rfl, by decide +kernel, by decide +kernel⟩
def Ok_is_bit (P : Program) (w : World) (K : PySem.W.Frag) (mg : Str → Option Value) (base : Heap) : Prop := ∃ fA fd, Fn P w K mg base (L2.CX P w) 1 "is_bit" s_is_bit fA fd ["thing"] (sp_is_bit K mg)
theorem okx_is_bit (Z : Zs K mg) {fA : Addr} {fd : FuncData} (F : Fun K "is_bit" "is_bit" s_is_bit fA fd) (m : mg "is_bit" = some (.ref fA))  : Fn P w K mg base (L2.CX P w) 1 "is_bit" s_is_bit fA fd ["thing"] (sp_is_bit K mg) := by
  refine ⟨F.okX sc_is_bit (fun vs H Q E h => h.1) (fun cdv A outer s H vs Q E hr h => ?_), m, F.kp, F.binds fun _ _ _ _ _ _ us hl => match us, hl with | [_], _ => rfl, F⟩
  have hu64 := hr.units
  obtain ⟨hlen, h⟩ := h
  refine ⟨_, (pss_one (ps_ret (pe_and (pe_callB (c_isi K rfl) (by rfl) Z.z_isinstance (by decide +kernel) (pa_cons (pv 0) (pa_cons (pe_bltn (v := .ty "int") (by rfl) Z.z_int (by decide +kernel) rfl) pa_nil))) (pe_and (pe_not (pe_callB (c_isi K rfl) (by rfl) Z.z_isinstance (by decide +kernel) (pa_cons (pv 0) (pa_cons (pe_bltn (v := .ty "bool") (by rfl) Z.z_bool (by decide +kernel) rfl) pa_nil)))) (pe_one (pe_chain op_le op_le pe_int (pv 0) pe_int)))))), ?_⟩
  obtain ⟨b, rfl, q⟩ := h
  walk_at "r"
  refine s_isi (b := true) (.base (.int b)) (by decide +kernel) ?_
  walk_at "r"
  refine s_isi (b := false) (.base (.int b)) (by decide +kernel) ?_
  walk_at "r"
  refine ifd (fun h => ?_) (fun h => ?_)
  · walk_at "r"
    have e : goodI b = decide (b ≤ 1) := by unfold goodI; simp [h]
    rw [e] at q
    exact q
  · have e : goodI b = false := by unfold goodI; simp [h]
    rw [e] at q
    exact q
abbrev s_check_bits : Stmt := topS 10
theorem sc_check_bits : FnScope ["bits", "bit"] ["bits"] (defScope s_check_bits) := ⟨rfl, rfl, rfl, by decide +kernel, rfl, by decide +kernel, by decide +kernel⟩
def Ok_check_bits (P : Program) (w : World) (K : PySem.W.Frag) (mg : Str → Option Value) (base : Heap) : Prop := ∃ fA fd, Fn P w K mg base (L2.CX P w) 2 "check_bits" s_check_bits fA fd ["bits"] (sp_check_bits K mg)
theorem okx_check_bits (Z : Zs K mg) {fA : Addr} {fd : FuncData} (F : Fun K "check_bits" "check_bits" s_check_bits fA fd) (m : mg "check_bits" = some (.ref fA)) (C_is_bit : Ok_is_bit P w K mg base) : Fn P w K mg base (L2.CX P w) 2 "check_bits" s_check_bits fA fd ["bits"] (sp_check_bits K mg) := by
  obtain ⟨_, _, C_is_bit⟩ := C_is_bit
  refine ⟨F.okX sc_check_bits (fun vs H Q E h => h.1) (fun cdv A outer s H vs Q E hr h => ?_), m, F.kp, F.binds fun _ _ _ _ _ _ us hl => match us, hl with | [_], _ => rfl, F⟩
  have hu64 := hr.units
  obtain ⟨hlen, h⟩ := h
  refine ⟨_, (pss_one (ps_for (passes_of rfl) rfl (pi_list (pv 0)) (pg_name (i := 1) sc_check_bits.nd rfl (Or.inl rfl))
      (pss_one (ps_if (pt_not (pt_val (pe_call C_is_bit.G (hr.mono (by decide)) rfl C_is_bit.m C_is_bit.kp C_is_bit.b .nil passL (pa_cons (pv 1) pa_nil))))
      (pss_one (ps_raise rfl (takes_of rfl rfl rfl rfl) (pmk_own0 PySem.F.excBase_ValueError Z.x_BadBits.x Z.x_BadBits.g Z.x_BadBits.k (raises_own Z.x_BadBits.b Z.x_BadBits.t) rfl)))
      pss_nil)))), ?_⟩
  obtain ⟨a, ns, rfl, hS, hh⟩ := h
  walk_at "r"
  refine ⟨_, rfl, ⟨_, hS⟩, ?_⟩
  refine forL (xs := ns.map V.int) (fun i σ H' => ∃ v, σ = [some (.ref a), v] ∧ H = H' ∧ ∀ x ∈ ns.take i, goodI x = true) ⟨_, rfl, rfl, by simp⟩ (fun i σ H' _ ⟨_, _, e, _⟩ => e ▸ hS) ?_ ?_
  · rintro i x σ H' hx ⟨v, rfl, rfl, hg⟩
    rw [List.getElem?_map] at hx
    cases z : ns[i]? with
    | none => rw [z] at hx; cases hx
    | some b =>
      rw [z] at hx
      cases hx
      walk_at "r"
      refine ⟨rfl, b, rfl, ?_⟩
      cases e : goodI b with
      | true =>
        walk_at "r"
        refine ⟨_, rfl, rfl, fun y hy => ?_⟩
        obtain ⟨hi, hx'⟩ := List.getElem?_eq_some_iff.mp z
        rw [List.take_succ_eq_append_getElem hi, List.mem_append] at hy
        rcases hy with hy | hy
        · exact hg y hy
        · rw [hx', List.mem_singleton] at hy; rw [hy, e]
      | false =>
        walk_at "r"
        rcases hh with ⟨w, _⟩ | ⟨_, q⟩
        · rw [List.all_eq_true] at w
          rw [w b (List.mem_of_getElem? z)] at e
          cases e
        · exact q
  · rintro σ H' ⟨v, rfl, rfl, hg⟩
    rw [List.length_map, List.take_length, ← List.all_eq_true] at hg
    rcases hh with ⟨_, q⟩ | ⟨z, _⟩
    · walk_at "r"
      exact q
    · rw [hg] at z; cases z
abbrev s_fixed : Stmt := topS 12
theorem sc_fixed : FnScope ["n", "w", "digit"] ["n", "w"] (defScope s_fixed) := ⟨rfl, rfl, rfl, by decide +kernel, rfl, by decide +kernel, by decide +kernel⟩
def Ok_fixed (P : Program) (w : World) (K : PySem.W.Frag) (mg : Str → Option Value) (base : Heap) : Prop := ∃ fA fd, Fn P w K mg base (L2.CX P w) 1 "fixed" s_fixed fA fd ["n", "w"] (sp_fixed K mg)
theorem okx_fixed (Z : Zs K mg) {fA : Addr} {fd : FuncData} (F : Fun K "fixed" "fixed" s_fixed fA fd) (m : mg "fixed" = some (.ref fA))  : Fn P w K mg base (L2.CX P w) 1 "fixed" s_fixed fA fd ["n", "w"] (sp_fixed K mg) := by
  refine ⟨F.okX sc_fixed (fun vs H Q E h => h.1) (fun cdv A outer s H vs Q E hr h => ?_), m, F.kp, F.binds fun _ _ _ _ _ _ us hl => match us, hl with | [_, _], _ => rfl, F⟩
  have hu64 := hr.units
  obtain ⟨hlen, h⟩ := h
  refine ⟨_, (pss_cons (ps_if (PW.pt (pw_or (pt_cmpR op_lt (pv 0) pe_int (nomark _)) (pw_or (pt_cmpR op_lt (pv 1) pe_int (nomark _)) (pw_or1 (pt_cmpR op_gt (pe_bits (pv 0)) (pv 1) (nomark _))))))
      (pss_one (ps_raise rfl (takes_of rfl rfl rfl rfl) (pmk_own0 PySem.F.excBase_ValueError Z.x_Outside.x Z.x_Outside.g Z.x_Outside.k (raises_own Z.x_Outside.b Z.x_Outside.t) rfl)))
      pss_nil)
    (pss_cons (ps_if (pt_cmpR op_eq (pv 1) pe_int (nomark _))
      (pss_one (ps_ret (pe_lst pa_nil)))
      pss_nil)
    (pss_one (ps_ret (pe_lc (own := [("digit", 2)]) (g := gName 2) (tt := tYes) (by rfl) sc_fixed.nd (pi_str (pe_bm PySem.F.plainAttrs_str PySem.F.slot_str_zfill PySem.F.type_str_zfill mt_zfill (pe_joined1 (pe_fmtB (pv 0))) (pa_cons (pv 1) pa_nil))) (blkOk_by (own := [("digit", 2)]) (N := ["n", "w", "digit"]) (sc := defScope s_fixed) (by decide +kernel)) (fun _ _ _ _ _ => (pg_name (i := 2) sc_fixed.nd rfl (Or.inl rfl))) (fun _ _ _ _ _ => pts_nil) (fun _ _ _ _ _ => (pe_callTy call_int_str (by rfl) Z.z_int (by decide +kernel) (pa_cons (pv 2) pa_nil)))))))), ?_⟩
  obtain ⟨n, w, rfl, hn, hw, hw2, hlt, k⟩ := h
  walk_at "r"
  refine ifd (fun h => absurd h (by omega)) (fun _ => ?_)
  walk_at "r"
  refine ifd (fun h => absurd h (by omega)) (fun _ => ?_)
  walk_at "r"
  have hb := (intBits_le (w := w.toNat) hn).mpr hlt
  refine ifd (fun h => absurd h (by omega)) (fun _ => ?_)
  walk_at "r"
  refine ifd (fun h => ?_) (fun h => ?_)
  · walk_at "r"
    subst h
    exact ⟨sz (by simp), fun p hp => k p _ (Stp.new (S := S0) (Same.refl H) hp).same hp upd_same⟩
  · walk_at "r"
    obtain ⟨w', rfl⟩ : ∃ w' : Nat, w = ((w' + 1 : Nat) : Int) := ⟨w.toNat - 1, by omega⟩
    rw [Int.toNat_natCast] at hlt k
    have en : n.natAbs = n.toNat := by omega
    refine ⟨hn, Nat.le_trans (bits_le (n := n.natAbs) (by rw [en]; exact hlt)) (by omega), ?_⟩
    refine ⟨rfl, ?_⟩
    walk_at "r"
    refine ⟨_, _, rfl, rfl, pad_ok (by omega), ?_⟩
    refine ⟨_, rfl, ?_⟩
    have hz := zfill_bin hlt
    rw [show n.toNat = n.natAbs by omega] at hz
    have hs : (Txt.zfill (binText n.natAbs) ((w' + 1 : Nat) : Int)).cps.size = w' + 1 := by
      rw [← Array.length_toList, hz, List.length_map, fixL_len]
    refine lcW walk_str S0 (Same.refl H) (fun _ z => z.elim) (fun _ _ _ => trivial) (fun i acc F1 H1 => acc = (bitsV (w' + 1) n.toNat).take i) (fun _ _ _ _ _ _ _ _ _ r => r) rfl ?_ ?_
    · rintro i x acc d F1 H1 H2 hi ⟨rfl, c, hc, rfl⟩ hd nS st f0 e hl r
      walk_at "r"
      have hc2 : ((fixL (w' + 1) n.natAbs).map code)[i]? = some c := by rw [← hz]; simpa using hc
      rw [List.getElem?_map] at hc2
      cases hb2 : (fixL (w' + 1) n.natAbs)[i]? with
      | none => rw [hb2] at hc2; cases hc2
      | some b =>
        rw [hb2] at hc2
        have ec : code b = c := Option.some.inj hc2
        subst ec
        refine ⟨_, _, rfl, text_bit (fixL_bit _ _ b (List.mem_of_getElem? hb2)), (by show 1 ≤ 640; decide), ?_⟩
        refine lc_end hd nS st f0 e hl (by rw [hs] at hi; omega) (.rfl' st.fh) ?_
        have hi2 : i < (bitsV (w' + 1) n.toNat).length := by simp [bitsV, fixL_len]; rw [hs] at hi; exact hi
        rw [r, List.take_succ_eq_append_getElem hi2]
        congr 2
        have q2 : (bitsV (w' + 1) n.toNat)[i]? = some (V.int b) := by rw [bitsV, List.getElem?_map, ← en, hb2]; rfl
        rw [List.getElem?_eq_getElem hi2] at q2
        exact (Option.some.inj q2).symm
    · intro d acc F0 F1 H1 st hd f0 ef st1 hl r
      refine k d H1 st.same hd ?_
      rw [ef] at st1
      rw [st1.fh _ _ upd_same, r, hs, List.take_of_length_le (by simp [bitsV, fixL_len])]
abbrev s_number_of : Stmt := topS 11
theorem sc_number_of : FnScope ["bits", "found", "bit"] ["bits"] (defScope s_number_of) := ⟨rfl, rfl, rfl, by decide +kernel, rfl, by decide +kernel, by decide +kernel⟩
def Ok_number_of (P : Program) (w : World) (K : PySem.W.Frag) (mg : Str → Option Value) (base : Heap) : Prop := ∃ fA fd, Fn P w K mg base (L2.CX P w) 1 "number_of" s_number_of fA fd ["bits"] (sp_number_of K mg)
theorem okx_number_of (Z : Zs K mg) {fA : Addr} {fd : FuncData} (F : Fun K "number_of" "number_of" s_number_of fA fd) (m : mg "number_of" = some (.ref fA))  : Fn P w K mg base (L2.CX P w) 1 "number_of" s_number_of fA fd ["bits"] (sp_number_of K mg) := by
  refine ⟨F.okX sc_number_of (fun vs H Q E h => h.1) (fun cdv A outer s H vs Q E hr h => ?_), m, F.kp, F.binds fun _ _ _ _ _ _ us hl => match us, hl with | [_], _ => rfl, F⟩
  have hu64 := hr.units
  obtain ⟨hlen, h⟩ := h
  refine ⟨_, (pss_cons (ps_set (i := 1) sc_number_of.nd rfl (Or.inl rfl) pe_int)
    (pss_cons (ps_for (passes_of rfl) rfl (pi_list (pv 0)) (pg_name (i := 2) sc_number_of.nd rfl (Or.inl rfl))
      (pss_one (ps_set (i := 1) sc_number_of.nd rfl (Or.inl rfl) (pe_op op_add (pe_op op_mul pe_int (pv 1)) (pv 2)))))
    (pss_one (ps_ret (pv 1))))), ?_⟩
  obtain ⟨a, bs, rfl, hS, q⟩ := h
  walk_at "r"
  refine ⟨_, rfl, ⟨_, hS⟩, ?_⟩
  refine forL (xs := bs.map V.int) (fun i σ H' => ∃ v, σ = [some (.ref a), some (.int (numL (bs.take i))), v] ∧ H = H') ⟨_, rfl, rfl⟩ (fun i σ H' _ ⟨_, _, e⟩ => e ▸ hS) ?_ ?_
  · rintro i x σ H' hx ⟨v, rfl, rfl⟩
    rw [List.getElem?_map] at hx
    cases z : bs[i]? with
    | none => rw [z] at hx; cases hx
    | some b =>
      rw [z] at hx
      cases hx
      have hi : i < bs.length := (List.getElem?_eq_some_iff.mp z).1
      have et : bs.take (i + 1) = bs.take i ++ [b] := by
        rw [List.take_succ_eq_append_getElem hi]
        rw [List.getElem?_eq_getElem hi] at z
        rw [Option.some.inj z]
      have hv : 2 * numL (bs.take i) + b = numL (bs.take (i + 1)) := by rw [et, numL_snoc]
      walk_at "r"
      rw [hv]
      exact ⟨_, rfl, rfl⟩
  · rintro σ H' ⟨v, rfl, rfl⟩
    rw [List.length_map, List.take_length]
    walk_at "r"
    exact q
abbrev s_count_bits : Stmt := topS 13
theorem sc_count_bits : FnScope ["n", "width"] ["n"] (defScope s_count_bits) := ⟨rfl, rfl, rfl, by decide +kernel, rfl, by decide +kernel, by decide +kernel⟩
def Ok_count_bits (P : Program) (w : World) (K : PySem.W.Frag) (mg : Str → Option Value) (base : Heap) : Prop := ∃ fA fd, Fn P w K mg base (L2.CX P w) 2 "count_bits" s_count_bits fA fd ["n"] (sp_count_bits K mg)
theorem okx_count_bits (Z : Zs K mg) {fA : Addr} {fd : FuncData} (F : Fun K "count_bits" "count_bits" s_count_bits fA fd) (m : mg "count_bits" = some (.ref fA)) (C_fixed : Ok_fixed P w K mg base) : Fn P w K mg base (L2.CX P w) 2 "count_bits" s_count_bits fA fd ["n"] (sp_count_bits K mg) := by
  obtain ⟨_, _, C_fixed⟩ := C_fixed
  refine ⟨F.okX sc_count_bits (fun vs H Q E h => h.1) (fun cdv A outer s H vs Q E hr h => ?_), m, F.kp, F.binds fun _ _ _ _ _ _ us hl => match us, hl with | [_], _ => rfl, F⟩
  have hu64 := hr.units
  obtain ⟨hlen, h⟩ := h
  refine ⟨_, (pss_cons (ps_if (pt_not (pt_chain op_le op_le pe_int (pv 0) (pe_glob (v := .int (2199023255550)) rfl Z.c_MOST_COUNT ⟨_, rfl⟩)))
      (pss_one (ps_raise rfl (takes_of rfl rfl rfl rfl) (pmk_own0 PySem.F.excBase_ValueError Z.x_Great.x Z.x_Great.g Z.x_Great.k (raises_own Z.x_Great.b Z.x_Great.t) rfl)))
      pss_nil)
    (pss_cons (ps_set (i := 1) sc_count_bits.nd rfl (Or.inl rfl) (pe_bits (pe_op op_add (pv 0) pe_int)))
    (pss_one (ps_ret (pe_op op_cat (pe_op op_rep (pe_lst (pa_cons pe_int pa_nil)) (pe_op op_sub (pv 1) pe_int)) (pe_call C_fixed.G (hr.mono (by decide)) rfl C_fixed.m C_fixed.kp C_fixed.b .nil passL (pa_cons (pe_op op_add (pv 0) pe_int) (pa_cons (pv 1) pa_nil)))))))), ?_⟩
  obtain ⟨n, rfl, hh⟩ := h
  walk_at "r"
  refine ifd (fun h0 => ?_) (fun h0 => ?_)
  · walk_at "r"
    refine ifn (fun h1 => ?_) (fun h1 => ?_)
    · rcases hh with ⟨_, _, q⟩ | ⟨z, _⟩
      · walk_at "r"
        have eb := intBits_blen (n := n + 1) (by omega)
        have b1 := blen_pos (n := (n + 1).toNat) (by omega)
        have b2 := blen_lt (n + 1).toNat
        have b3 : blen (n + 1).toNat ≤ 41 := blen_le (by omega)
        rw [eb]
        refine ⟨sz (by simp), fun a ha => ?_⟩
        have s1 := Stp.new (S := S0) (o := .lst [.int 0]) (Same.refl H) ha
        walk_at "r"
        refine s_rep upd_same (by omega) (by omega) fun b hb => ?_
        have s2 := Stp.new (S := S0) (o := .lst (List.replicate ((blen (n + 1).toNat : Int) - 1).toNat (V.int 0))) s1.fh hb
        walk_at "r"
        refine ⟨rfl, _, _, rfl, by omega, by omega, by omega, by rw [Int.toNat_natCast]; exact b2, fun c H3 e3 c0 hc => ?_⟩
        refine ⟨_, _, _, _, rfl, rfl, e3 _ _ upd_same, hc, sz (by simp [bitsV, fixL_len]; omega), fun d hd => ?_⟩
        have s4 := Stp.new (S := S0) (o := .lst (List.replicate ((blen (n + 1).toNat : Int) - 1).toNat (V.int 0) ++ bitsV ((blen (n + 1).toNat : Nat) : Int).toNat (n + 1).toNat)) (Same.refl H3) hd
        have e4 := ((s1.trans s2).same.trans e3).trans s4.same
        refine q d _ e4 (((s1.trans s2).same.trans e3).free hd) ?_
        rw [upd_same]
        unfold countL
        rw [List.map_append, List.map_replicate, show (n + 1).toNat = n.toNat + 1 by omega, Int.toNat_natCast, show ((blen (n.toNat + 1) : Int) - 1).toNat = blen (n.toNat + 1) - 1 by omega]
        rfl
      · exact absurd ⟨h0, h1⟩ z
    · rcases hh with ⟨_, z, _⟩ | ⟨_, q⟩
      · exact absurd z h1
      · exact q
  · walk_at "r"
    rcases hh with ⟨z, _, _⟩ | ⟨_, q⟩
    · exact absurd z h0
    · exact q
abbrev s_count_at : Stmt := topS 14
theorem sc_count_at : FnScope ["bits", "at", "place", "zeros", "behind"] ["bits", "at"] (defScope s_count_at) := ⟨rfl, rfl, rfl, by decide +kernel, rfl, by decide +kernel, by decide +kernel⟩
def Ok_count_at (P : Program) (w : World) (K : PySem.W.Frag) (mg : Str → Option Value) (base : Heap) : Prop := ∃ fA fd, Fn P w K mg base (L2.CX P w) 2 "count_at" s_count_at fA fd ["bits", "at"] (sp_count_at K mg)
theorem okx_count_at (Z : Zs K mg) {fA : Addr} {fd : FuncData} (F : Fun K "count_at" "count_at" s_count_at fA fd) (m : mg "count_at" = some (.ref fA)) (C_number_of : Ok_number_of P w K mg base) : Fn P w K mg base (L2.CX P w) 2 "count_at" s_count_at fA fd ["bits", "at"] (sp_count_at K mg) := by
  obtain ⟨_, _, C_number_of⟩ := C_number_of
  refine ⟨F.okX sc_count_at (fun vs H Q E h => h.1) (fun cdv A outer s H vs Q E hr h => ?_), m, F.kp, F.binds fun _ _ _ _ _ _ us hl => match us, hl with | [_, _], _ => rfl, F⟩
  have hu64 := hr.units
  obtain ⟨hlen, h⟩ := h
  refine ⟨_, (pss_cons (ps_set (i := 2) sc_count_at.nd rfl (Or.inl rfl) (pv 1))
    (pss_cons (ps_while (passes_of rfl) (PW.pt (pw_and (pt_cmpR op_lt (pv 2) (pe_callB (c_len K rfl) (by rfl) Z.z_len (by decide +kernel) (pa_cons (pv 0) pa_nil)) (nomark _)) (pw_and (pt_cmpR op_le (pe_op op_sub (pv 2) (pv 1)) (pe_glob (v := .int (40)) rfl Z.c_MOST_ZEROS ⟨_, rfl⟩) (nomark _)) (pw_and1 (pt_cmpR op_eq (pe_ix (i_list K rfl) (pv 0) (pv 2) (fun _ _ => rfl)) pe_int (nomark _))))))
      (pss_one (ps_set (i := 2) sc_count_at.nd rfl (Or.inl rfl) (pe_op op_add (pv 2) pe_int))))
    (pss_cons (ps_set (i := 3) sc_count_at.nd rfl (Or.inl rfl) (pe_op op_sub (pv 2) (pv 1)))
    (pss_cons (ps_if (pt_cmpR op_gt (pv 3) (pe_glob (v := .int (40)) rfl Z.c_MOST_ZEROS ⟨_, rfl⟩) (nomark _))
      (pss_one (ps_ret (pe_tup (pa_cons pe_str pa_nil))))
      pss_nil)
    (pss_cons (ps_set (i := 4) sc_count_at.nd rfl (Or.inl rfl) (pe_op op_add (pe_op op_add (pv 2) (pv 3)) pe_int))
    (pss_cons (ps_if (pt_cmpR op_gt (pv 4) (pe_callB (c_len K rfl) (by rfl) Z.z_len (by decide +kernel) (pa_cons (pv 0) pa_nil)) (nomark _))
      (pss_one (ps_ret (pe_tup (pa_cons pe_str pa_nil))))
      pss_nil)
    (pss_one (ps_ret (pe_tup (pa_cons pe_str (pa_cons (pe_op op_sub (pe_call C_number_of.G (hr.mono (by decide)) rfl C_number_of.m C_number_of.kp C_number_of.b .nil passL (pa_cons (pe_slice (l_list K rfl) (pv 0) (po_some (pv 2)) (po_some (pv 4))) pa_nil)) pe_int) (pa_cons (pv 4) pa_nil)))))))))))), ?_⟩
  obtain ⟨a, bs, n, rfl, hS, hn, hlen, q⟩ := h
  have hz := zrun_le hn
  walk_at "r"
  refine whileM (mon_and (mon_test (mon_op mon_I0 mon_var (mon_len (mon_cons mon_var mon_nil)))) (mon_and (mon_test (mon_op mon_I0 (mon_op mon_I0 mon_var mon_var) mon_c)) (mon_test (mon_op mon_eq (mon_op mon_ixL mon_var mon_var) mon_c))))
    (fun σ H' => ∃ j : Nat, σ = [some (.ref a), some (.int n), some (.int ((n + j : Nat) : Int)), none, none] ∧ H = H' ∧ j ≤ min 41 (zrun bs n)) (fun σ _ => match σ with
      | [_, _, some (.int p), _, _] => (n + 41 - p.toNat)
      | _ => 0) ⟨0, rfl, rfl, Nat.zero_le _⟩ ?_
  rintro σ H' ⟨j, rfl, rfl, hj⟩
  walk_at "r"
  refine ifd (fun h1 => ?_) (fun h1 => ?_)
  · walk_at "r"
    refine ifd (fun h2 => ?_) (fun h2 => ?_)
    · walk_at "r"
      have hl : n + j < bs.length := by simp at h1; omega
      refine s_ixL hS (at_nat' (get_int hl)) ?_
      walk_at "r"
      refine ifd (fun h3 => ?_) (fun h3 => ?_)
      · walk_at "r"
        have hlt : j < zrun bs n := by
          refine Decidable.byContradiction fun z => ?_
          have e : j = zrun bs n := by omega
          refine zrun_end (bs := bs) (a := n) ?_
          rw [← e, List.getElem?_eq_getElem hl, h3]
        refine ⟨⟨j + 1, ?_, rfl, by omega⟩, ?_⟩
        · rfl
        · show n + 41 - (((n + j : Nat) : Int) + 1).toNat < n + 41 - (((n + j : Nat) : Int)).toNat
          omega
      · have e : j = min 41 (zrun bs n) := by
          by_cases z : j < zrun bs n
          · have q2 := zrun_at z
            rw [List.getElem?_eq_getElem hl] at q2
            exact absurd (Option.some.inj q2) h3
          · omega
        -- behind the loop
        walk_at "r"
        have ez : ((n + j : Nat) : Int) - (n : Int) = (j : Int) := by omega
        rw [ez]
        refine ifd (fun h4 => ?_) (fun h4 => ?_)
        · walk_at "r"
          refine ⟨sz (by simp), fun p hp => q p _ (Stp.new (S := S0) (Same.refl _) hp).same hp ?_⟩
          rw [upd_same, cntR, if_pos (by omega)]
        · walk_at "r"
          refine ifd (fun h5 => ?_) (fun h5 => ?_)
          · walk_at "r"
            refine ⟨sz (by simp), fun p hp => q p _ (Stp.new (S := S0) (Same.refl _) hp).same hp ?_⟩
            rw [upd_same, cntR, if_neg (by omega), if_pos (by simp at h5; omega)]
          · walk_at "r"
            have eb : ((n + j : Nat) : Int) + (j : Int) + 1 = ((n + j + j + 1 : Nat) : Int) := by omega
            rw [eb]
            refine s_slL hS fun p1 hp1 => ?_
            rw [cutV_nat, show n + j + j + 1 - (n + j) = j + 1 by omega]
            have s1 := Stp.new (S := S0) (o := .lst (((bs.map V.int).drop (n + j)).take (j + 1))) (Same.refl _) hp1
            refine ⟨rfl, p1, (bs.drop (n + j)).take (j + 1), rfl, SqL.of (by rw [upd_same, List.map_take, List.map_drop]), ?_⟩
            walk_at "r"
            refine ⟨sz (by simp), fun p hp => q p _ (s1.same.trans (Stp.new (S := S0) (Same.refl _) hp).same) (s1.same.free hp) ?_⟩
            rw [upd_same, cntR, if_neg (by omega), if_neg (by simp at h5; omega), ← e]
    · have e : j = min 41 (zrun bs n) := by omega
      -- behind the loop
      walk_at "r"
      have ez : ((n + j : Nat) : Int) - (n : Int) = (j : Int) := by omega
      rw [ez]
      refine ifd (fun h4 => ?_) (fun h4 => ?_)
      · walk_at "r"
        refine ⟨sz (by simp), fun p hp => q p _ (Stp.new (S := S0) (Same.refl _) hp).same hp ?_⟩
        rw [upd_same, cntR, if_pos (by omega)]
      · walk_at "r"
        refine ifd (fun h5 => ?_) (fun h5 => ?_)
        · walk_at "r"
          refine ⟨sz (by simp), fun p hp => q p _ (Stp.new (S := S0) (Same.refl _) hp).same hp ?_⟩
          rw [upd_same, cntR, if_neg (by omega), if_pos (by simp at h5; omega)]
        · walk_at "r"
          have eb : ((n + j : Nat) : Int) + (j : Int) + 1 = ((n + j + j + 1 : Nat) : Int) := by omega
          rw [eb]
          refine s_slL hS fun p1 hp1 => ?_
          rw [cutV_nat, show n + j + j + 1 - (n + j) = j + 1 by omega]
          have s1 := Stp.new (S := S0) (o := .lst (((bs.map V.int).drop (n + j)).take (j + 1))) (Same.refl _) hp1
          refine ⟨rfl, p1, (bs.drop (n + j)).take (j + 1), rfl, SqL.of (by rw [upd_same, List.map_take, List.map_drop]), ?_⟩
          walk_at "r"
          refine ⟨sz (by simp), fun p hp => q p _ (s1.same.trans (Stp.new (S := S0) (Same.refl _) hp).same) (s1.same.free hp) ?_⟩
          rw [upd_same, cntR, if_neg (by omega), if_neg (by simp at h5; omega), ← e]
  · have e : j = min 41 (zrun bs n) := by simp at h1; omega
    -- behind the loop
    walk_at "r"
    have ez : ((n + j : Nat) : Int) - (n : Int) = (j : Int) := by omega
    rw [ez]
    refine ifd (fun h4 => ?_) (fun h4 => ?_)
    · walk_at "r"
      refine ⟨sz (by simp), fun p hp => q p _ (Stp.new (S := S0) (Same.refl _) hp).same hp ?_⟩
      rw [upd_same, cntR, if_pos (by omega)]
    · walk_at "r"
      refine ifd (fun h5 => ?_) (fun h5 => ?_)
      · walk_at "r"
        refine ⟨sz (by simp), fun p hp => q p _ (Stp.new (S := S0) (Same.refl _) hp).same hp ?_⟩
        rw [upd_same, cntR, if_neg (by omega), if_pos (by simp at h5; omega)]
      · walk_at "r"
        have eb : ((n + j : Nat) : Int) + (j : Int) + 1 = ((n + j + j + 1 : Nat) : Int) := by omega
        rw [eb]
        refine s_slL hS fun p1 hp1 => ?_
        rw [cutV_nat, show n + j + j + 1 - (n + j) = j + 1 by omega]
        have s1 := Stp.new (S := S0) (o := .lst (((bs.map V.int).drop (n + j)).take (j + 1))) (Same.refl _) hp1
        refine ⟨rfl, p1, (bs.drop (n + j)).take (j + 1), rfl, SqL.of (by rw [upd_same, List.map_take, List.map_drop]), ?_⟩
        walk_at "r"
        refine ⟨sz (by simp), fun p hp => q p _ (s1.same.trans (Stp.new (S := S0) (Same.refl _) hp).same) (s1.same.free hp) ?_⟩
        rw [upd_same, cntR, if_neg (by omega), if_neg (by simp at h5; omega), ← e]
abbrev s_check_of : Stmt := topS 20
theorem sc_check_of : FnScope ["bits", "held", "bit", "top"] ["bits"] (defScope s_check_of) := ⟨rfl, rfl, rfl, by decide +kernel, rfl, by decide +kernel, by decide +kernel⟩
def Ok_check_of (P : Program) (w : World) (K : PySem.W.Frag) (mg : Str → Option Value) (base : Heap) : Prop := ∃ fA fd, Fn P w K mg base (L2.CX P w) 2 "check_of" s_check_of fA fd ["bits"] (sp_check_of K mg)
theorem okx_check_of (Z : Zs K mg) {fA : Addr} {fd : FuncData} (F : Fun K "check_of" "check_of" s_check_of fA fd) (m : mg "check_of" = some (.ref fA)) (C_fixed : Ok_fixed P w K mg base) : Fn P w K mg base (L2.CX P w) 2 "check_of" s_check_of fA fd ["bits"] (sp_check_of K mg) := by
  obtain ⟨_, _, C_fixed⟩ := C_fixed
  refine ⟨F.okX sc_check_of (fun vs H Q E h => h.1) (fun cdv A outer s H vs Q E hr h => ?_), m, F.kp, F.binds fun _ _ _ _ _ _ us hl => match us, hl with | [_], _ => rfl, F⟩
  have hu64 := hr.units
  obtain ⟨hlen, h⟩ := h
  refine ⟨_, (pss_cons (ps_set (i := 1) sc_check_of.nd rfl (Or.inl rfl) pe_int)
    (pss_cons (ps_for (passes_of rfl) rfl (pi_list (pv 0)) (pg_name (i := 2) sc_check_of.nd rfl (Or.inl rfl))
      (pss_cons (ps_set (i := 3) sc_check_of.nd rfl (Or.inl rfl) (pe_op op_xor (pe_op op_fdiv (pv 1) (pe_glob (v := .int (128)) rfl Z.c_HIGHEST ⟨_, rfl⟩)) (pv 2)))
    (pss_cons (ps_set (i := 1) sc_check_of.nd rfl (Or.inl rfl) (pe_op op_mod (pe_op op_mul pe_int (pv 1)) (pe_glob (v := .int (256)) rfl Z.c_STATES ⟨_, rfl⟩)))
    (pss_one (ps_if (pt_cmpR op_eq (pv 3) pe_int (nomark _))
      (pss_one (ps_set (i := 1) sc_check_of.nd rfl (Or.inl rfl) (pe_op op_xor (pv 1) (pe_glob (v := .int (7)) rfl Z.c_TURN ⟨_, rfl⟩))))
      pss_nil)))))
    (pss_one (ps_ret (pe_call C_fixed.G (hr.mono (by decide)) rfl C_fixed.m C_fixed.kp C_fixed.b .nil passL (pa_cons (pv 1) (pa_cons (pe_glob (v := .int (8)) rfl Z.c_CHECK_SIZE ⟨_, rfl⟩) pa_nil))))))), ?_⟩
  obtain ⟨a, bs, rfl, hS, hb, q⟩ := h
  walk_at "r"
  refine ⟨_, rfl, ⟨_, hS⟩, ?_⟩
  refine forL (xs := bs.map V.int) (fun i σ H' => ∃ v w, σ = [some (.ref a), some (.int (chk (bs.take i) : Nat)), v, w] ∧ H = H') ⟨_, _, rfl, rfl⟩ (fun i σ H' _ ⟨_, _, _, e⟩ => e ▸ hS) ?_ ?_
  · rintro i x σ H' hx ⟨v, w, rfl, rfl⟩
    rw [List.getElem?_map] at hx
    cases z : bs[i]? with
    | none => rw [z] at hx; cases hx
    | some b =>
      rw [z] at hx
      cases hx
      have hbb := hb b (List.mem_of_getElem? z)
      have hi : i < bs.length := (List.getElem?_eq_some_iff.mp z).1
      have et : bs.take (i + 1) = bs.take i ++ [b] := by
        rw [List.take_succ_eq_append_getElem hi]
        rw [List.getElem?_eq_getElem hi] at z
        rw [Option.some.inj z]
      have lt := chk_lt (bs.take i)
      have b0 : 0 ≤ b := by rcases hbb with rfl | rfl <;> decide
      have es : chk (bs.take (i + 1)) = stp (chk (bs.take i)) b.toNat := by rw [et]; exact cf_snoc _ _ _
      have e1 : Builtin.bitXor ((chk (bs.take i) : Int) / 128) b = (((chk (bs.take i) / 128) ^^^ b.toNat : Nat) : Int) := by
        rw [Bits.bitXor_pp (by omega) b0]; congr 2
      have e2 : (2 * (chk (bs.take i) : Int)) % 256 = ((2 * chk (bs.take i) % 256 : Nat) : Int) := by simp
      walk_at "r"
      rw [e1]
      refine ifd (fun h => ?_) (fun h => ?_)
      · have h' : (chk (bs.take i) / 128) ^^^ b.toNat = 1 := by omega
        have hv : Builtin.bitXor (2 * (chk (bs.take i) : Int) % 256) 7 = ((chk (bs.take (i + 1)) : Nat) : Int) := by
          rw [e2, Bits.bitXor_pp (by omega) (by decide), es, stp, if_pos h']; rfl
        walk_at "r"
        rw [hv]
        exact ⟨_, _, rfl, rfl⟩
      · have h' : ¬ (chk (bs.take i) / 128) ^^^ b.toNat = 1 := by omega
        have hv : 2 * (chk (bs.take i) : Int) % 256 = ((chk (bs.take (i + 1)) : Nat) : Int) := by
          rw [e2, es, stp, if_neg h', Nat.xor_zero]
        walk_at "r"
        rw [hv]
        exact ⟨_, _, rfl, rfl⟩
  · rintro σ H' ⟨v, w, rfl, rfl⟩
    rw [List.length_map, List.take_length]
    walk_at "r"
    refine ⟨rfl, _, _, rfl, by omega, by decide, by decide, by rw [Int.toNat_natCast]; exact chk_lt bs, fun p H1 s1 hp h1 => q p H1 s1 hp ?_⟩
    rw [h1, Int.toNat_natCast]; rfl
abbrev s_want_group : Stmt := topS 26
theorem sc_want_group : FnScope ["group"] ["group"] (defScope s_want_group) := ⟨rfl, rfl, rfl, by decide +kernel, rfl, by decide +kernel, by decide +kernel⟩
def Ok_want_group (P : Program) (w : World) (K : PySem.W.Frag) (mg : Str → Option Value) (base : Heap) : Prop := ∃ fA fd, Fn P w K mg base (L2.CX P w) 1 "want_group" s_want_group fA fd ["group"] (sp_want_group K mg)
theorem okx_want_group (Z : Zs K mg) {fA : Addr} {fd : FuncData} (F : Fun K "want_group" "want_group" s_want_group fA fd) (m : mg "want_group" = some (.ref fA))  : Fn P w K mg base (L2.CX P w) 1 "want_group" s_want_group fA fd ["group"] (sp_want_group K mg) := by
  refine ⟨F.okX sc_want_group (fun vs H Q E h => h.1) (fun cdv A outer s H vs Q E hr h => ?_), m, F.kp, F.binds fun _ _ _ _ _ _ us hl => match us, hl with | [_], _ => rfl, F⟩
  have hu64 := hr.units
  obtain ⟨hlen, h⟩ := h
  refine ⟨_, (pss_one (ps_if (pt_not (pt_chain op_le op_le pe_int (pv 0) (pe_glob (v := .int (8)) rfl Z.c_MOST_GROUP ⟨_, rfl⟩)))
      (pss_one (ps_raise rfl (takes_of rfl rfl rfl rfl) (pmk_own0 PySem.F.excBase_ValueError Z.x_Outside.x Z.x_Outside.g Z.x_Outside.k (raises_own Z.x_Outside.b Z.x_Outside.t) rfl)))
      pss_nil)), ?_⟩
  obtain ⟨g, rfl, hh⟩ := h
  walk_at "r"
  refine ifd (fun h0 => ?_) (fun h0 => ?_)
  · walk_at "r"
    refine ifn (fun h1 => ?_) (fun h1 => ?_)
    · rcases hh with ⟨_, _, q⟩ | ⟨z, _⟩
      · walk_at "r"
        exact q
      · exact absurd ⟨h0, h1⟩ z
    · walk_at "r"
      rcases hh with ⟨_, z, _⟩ | ⟨_, q⟩
      · exact absurd z h1
      · exact q
  · walk_at "r"
    rcases hh with ⟨z, _, _⟩ | ⟨_, q⟩
    · exact absurd z h0
    · exact q
abbrev s_cut_up : Stmt := topS 27
theorem sc_cut_up : FnScope ["things", "size", "at"] ["things", "size"] (defScope s_cut_up) := ⟨rfl, rfl, rfl, by decide +kernel, rfl, by decide +kernel, by decide +kernel⟩
def Ok_cut_up (P : Program) (w : World) (K : PySem.W.Frag) (mg : Str → Option Value) (base : Heap) : Prop := ∃ fA fd, Fn P w K mg base (L2.CX P w) 1 "cut_up" s_cut_up fA fd ["things", "size"] (sp_cut_up K mg)
theorem okx_cut_up (Z : Zs K mg) {fA : Addr} {fd : FuncData} (F : Fun K "cut_up" "cut_up" s_cut_up fA fd) (m : mg "cut_up" = some (.ref fA))  : Fn P w K mg base (L2.CX P w) 1 "cut_up" s_cut_up fA fd ["things", "size"] (sp_cut_up K mg) := by
  refine ⟨F.okX sc_cut_up (fun vs H Q E h => h.1) (fun cdv A outer s H vs Q E hr h => ?_), m, F.kp, F.binds fun _ _ _ _ _ _ us hl => match us, hl with | [_, _], _ => rfl, F⟩
  have hu64 := hr.units
  obtain ⟨hlen, h⟩ := h
  refine ⟨_, (pss_one (ps_ret (pe_lc (own := [("at", 2)]) (g := gName 2) (tt := tYes) (by rfl) sc_cut_up.nd (pi_range3 rfl Z.z_range (pa_cons pe_int (pa_cons (pe_callB (c_len K rfl) (by rfl) Z.z_len (by decide +kernel) (pa_cons (pv 0) pa_nil)) (pa_cons (pv 1) pa_nil)))) (blkOk_by (own := [("at", 2)]) (N := ["things", "size", "at"]) (sc := defScope s_cut_up) (by decide +kernel)) (fun _ _ _ _ _ => (pg_name (i := 2) sc_cut_up.nd rfl (Or.inl rfl))) (fun _ _ _ _ _ => pts_nil) (fun _ _ _ _ _ => (pe_slice (l_list K rfl) (pv 0) (po_some (pv 2)) (po_some (pe_op op_add (pv 2) (pv 1)))))))), ?_⟩
  obtain ⟨F, a, xs, k, rfl, hF, hS, hk0, hk, hl0, q⟩ := h
  walk_at "r"
  refine s_len (hF.seq hS) ?_
  walk_at "r"
  have en : (((xs.length : Nat) : Int) + (k : Int) - 1) / (k : Int) = (((chunk k xs).length : Nat) : Int) := by
    rw [chunk_len hk0, Int.natCast_ediv]
    congr 1
    omega
  refine ⟨_, _, _, (chunk k xs).length, rfl, ?_, ?_⟩
  · have := rgc_up (L := ((xs.length : Nat) : Int)) (k := (k : Int)) (by omega) (by omega) (by omega) (by omega)
    rw [en, Int.toNat_natCast] at this
    exact this
  have hcl : (chunk k xs).length < 100000 := by
    rw [chunk_len hk0]
    exact Nat.div_lt_of_lt_mul (by omega)
  refine lcW walk_rangeC S0 hF (fun _ z => z.elim) (fun _ _ _ => trivial) (fun i acc F1 H1 => LV F1 acc ((chunk k xs).take i)) (fun _ _ _ _ _ _ _ _ _ r => r) .nil ?_ ?_
  · rintro i x acc d F1 H1 H2 hi ⟨rfl, rfl⟩ hd nS st f0 e hl rr
    have ei : (0 : Int) + (i : Int) * (k : Int) = ((i * k : Nat) : Int) := by simp
    have ej : ((i * k : Nat) : Int) + (k : Int) = ((i * k + k : Nat) : Int) := by simp
    dsimp only; rw [ei]
    walk_at "r"
    rw [ej]
    refine s_slL ((hF.trans st.same).seq hS) fun p hp => ?_
    have s4 := Stp.new (S := S0) (o := .lst (cutV xs (some ((i * k : Nat) : Int)) (some ((i * k + k : Nat) : Int)))) st.fh hp
    refine lc_end hd nS st f0 e hl (by omega) s4 ?_
    have hg := chunk_get hk0 xs i hi
    rw [List.take_succ_eq_append_getElem hi]
    refine (rr.mono s4.ff).snoc ?_
    rw [upd_same, cutV_nat, show i * k + k - i * k = k by omega]
    rw [List.getElem?_eq_getElem hi] at hg
    rw [Option.some.inj hg]
  · intro d acc F0 F1 H1 st hd f0 ef st1 hl rr
    rw [List.take_length] at rr
    refine q d F1 H1 acc st1 (by rw [ef]; exact upd_same) (rr.mono ?_)
    rw [ef]
    exact (Stp.new (S := S0) (Same.refl F0) f0).ff
abbrev s_sum_of : Stmt := topS 28
theorem sc_sum_of : FnScope ["loads", "found", "load", "one", "other"] ["loads"] (defScope s_sum_of) := ⟨rfl, rfl, rfl, by decide +kernel, rfl, by decide +kernel, by decide +kernel⟩
def Ok_sum_of (P : Program) (w : World) (K : PySem.W.Frag) (mg : Str → Option Value) (base : Heap) : Prop := ∃ fA fd, Fn P w K mg base (L2.CX P w) 1 "sum_of" s_sum_of fA fd ["loads"] (sp_sum_of K mg)
theorem okx_sum_of (Z : Zs K mg) {fA : Addr} {fd : FuncData} (F : Fun K "sum_of" "sum_of" s_sum_of fA fd) (m : mg "sum_of" = some (.ref fA))  : Fn P w K mg base (L2.CX P w) 1 "sum_of" s_sum_of fA fd ["loads"] (sp_sum_of K mg) := by
  refine ⟨F.okX sc_sum_of (fun vs H Q E h => h.1) (fun cdv A outer s H vs Q E hr h => ?_), m, F.kp, F.binds fun _ _ _ _ _ _ us hl => match us, hl with | [_], _ => rfl, F⟩
  have hu64 := hr.units
  obtain ⟨hlen, h⟩ := h
  refine ⟨_, (pss_cons (ps_set (i := 1) sc_sum_of.nd rfl (Or.inl rfl) (pe_callTy call_list_of (by rfl) Z.z_list (by decide +kernel) (pa_cons (pe_ix (i_list K rfl) (pv 0) pe_int (fun _ _ => rfl)) pa_nil)))
    (pss_cons (ps_for (passes_of rfl) rfl (pi_list (pe_slice (l_list K rfl) (pv 0) (po_some pe_int) po_none)) (pg_name (i := 2) sc_sum_of.nd rfl (Or.inl rfl))
      (pss_one (ps_setLc (i := 1) (own := [("one", 3), ("other", 4)]) (g := gTup K 2 (gCons (gName 3) (gCons (gName 4) gNil))) (tt := tYes) (by rfl) sc_sum_of.nd rfl rfl (sw_true rfl rfl rfl (by decide +kernel)) (pi_zip (by rfl) Z.z_zip (pa_cons (pv 1) (pa_cons (pv 2) pa_nil))) (blkOk_by (own := [("one", 3), ("other", 4)]) (N := ["loads", "found", "load", "one", "other"]) (sc := defScope s_sum_of) (by decide +kernel)) (fun _ _ _ _ _ => (pg_tup rfl (pgs_cons (pg_name (i := 3) sc_sum_of.nd rfl (Or.inl rfl) (Or.inr rfl)) (pgs_cons (pg_name (i := 4) sc_sum_of.nd rfl (Or.inl rfl) (Or.inr rfl)) pgs_nil)))) (fun _ _ _ _ _ => pts_nil) (fun _ _ _ _ _ => (pe_op op_xor (pv 3) (pv 4))))))
    (pss_one (ps_ret (pv 1))))), ?_⟩
  obtain ⟨a, us, ls, rfl, hS, hR, hne, hn, hL, q⟩ := h
  obtain ⟨l0, lr, rfl⟩ : ∃ l0 lr, ls = l0 :: lr := by
    cases ls with
    | nil => exact absurd rfl hne
    | cons x y => exact ⟨x, y, rfl⟩
  obtain ⟨a0, us', rfl, h0, hr⟩ : ∃ a0 us', us = .ref a0 :: us' ∧ H a0 = some (.lst (l0.map V.int)) ∧ RL H us' lr := by
    cases hR with
    | cons h r => exact ⟨_, _, rfl, h, r⟩
  have hL0 := hL l0 (by simp)
  walk_at "r"
  refine s_ixL hS (at_of (j := 0) (by decide) rfl) ?_
  walk_at "r"
  refine ⟨a0, _, rfl, .inl (SqL.of h0), fun f hf => ?_⟩
  have e1 : Same H (upd H f (.lst (l0.map V.int))) := (Stp.new (S := S0) (Same.refl _) hf).same
  have h1 : upd H f (.lst (l0.map V.int)) f = some (.lst (l0.map V.int)) := upd_same
  generalize upd H f (.lst (l0.map V.int)) = H1 at e1 h1 ⊢
  walk_at "r"
  refine s_slL (e1.seq hS) fun p hp => ?_
  have ec : cutV (V.ref a0 :: us') (some 1) none = us' := by rw [show (some (1 : Int)) = some ((1 : Nat) : Int) from rfl, cutV_from]; rfl
  rw [ec]
  have e2 : Same H1 (upd H1 p (.lst us')) := (Stp.new (S := S0) (Same.refl _) hp).same
  have h2 : upd H1 p (.lst us') p = some (.lst us') := upd_same
  generalize upd H1 p (.lst us') = H2 at e2 h2 ⊢
  refine ⟨_, rfl, ⟨_, SqL.of h2⟩, ?_⟩
  have hr2 : RL H2 us' lr := LV.mono (e1.trans e2) hr
  refine forL (xs := us') (fun i σ H' => ∃ v q, σ = [some (.ref a), some (.ref q), v, none, none] ∧ Same H2 H' ∧ (i = 0 ∨ H q = none) ∧ H q = none ∧ H' q = some (.lst ((sumC (l0 :: lr.take i)).map V.int))) ⟨_, f, rfl, Same.refl _, .inl rfl, hf, by rw [List.take_zero, sumC_one hL0.1 hL0.2]; exact e2 _ _ h1⟩ (fun i σ H' _ ⟨_, _, _, s, _⟩ => s.seq (SqL.of h2)) ?_ ?_
  · rintro i x σ H3 hx ⟨v, q0, rfl, e3, _, hq0, hq3⟩
    obtain ⟨b, l, rfl, hl1, hb⟩ := RL.get hr2 i hx
    have hi : i < lr.length := (List.getElem?_eq_some_iff.mp hl1).1
    have hll := hL l (List.mem_cons_of_mem _ (List.mem_of_getElem? hl1))
    have et : lr.take (i + 1) = lr.take i ++ [l] := by
      rw [List.take_succ_eq_append_getElem hi]
      rw [List.getElem?_eq_getElem hi] at hl1
      rw [Option.some.inj hl1]
    obtain ⟨L1, hS1⟩ : ∃ L1, L1 = l0 :: lr.take i := ⟨_, rfl⟩
    have es : sumC (l0 :: lr.take (i + 1)) = sumC (L1 ++ [l]) := by rw [et, hS1]; rfl
    rw [← hS1] at hq3
    walk_at "r"
    refine s_iZ ?_
    walk_at "r"
    refine ⟨q0, b, _, _, rfl, SqL.of hq3, SqL.of (e3 _ _ hb), ?_⟩
    refine lcW (walk_zip (n := 48) (xs := (sumC L1).map V.int) (ys := l.map V.int) (by rw [List.length_map, List.length_map, sumC_len, hll.1]; rfl)) S0 (Same.refl H3) (fun _ z => z.elim) (fun F1 H1 st => ⟨st.same.seq (SqL.of hq3), st.same.seq (SqL.of (e3 _ _ hb))⟩) (fun j acc F1 H1 => acc = ((sumC (L1 ++ [l])).map V.int).take j) (fun _ _ _ _ _ _ _ _ _ r => r) rfl ?_ ?_
    · rintro j x acc d F1 H4 H5 hj ⟨T, x1, y1, rfl, hT, rfl, hx1, hy1⟩ hd nS st f0 e hl rr
      dsimp only at hx1 hy1
      rw [List.getElem?_map] at hx1 hy1
      have hj1 : j < (sumC L1).length := by rw [sumC_len]; exact hj
      have hj2 : j < l.length := by rw [hll.1]; exact hj
      rw [List.getElem?_eq_getElem hj1] at hx1
      rw [List.getElem?_eq_getElem hj2] at hy1
      obtain rfl := Option.some.inj hx1
      obtain rfl := Option.some.inj hy1
      have s5 := Stp.new (S := S0) (o := .tup [V.int (sumC L1)[j], V.int l[j]]) st.fh hT
      walk_at "r"
      refine lc_end hd nS st f0 e hl (by omega) s5 ?_
      have hv : Builtin.bitXor (sumC L1)[j] l[j] = ((sumC L1).getD j 0 + l.getD j 0) % 2 := by
        rw [xorB (sumC_bits L1 _ (List.getElem_mem hj1)) (hll.2 _ (List.getElem_mem hj2)), List.getD_eq_getElem?_getD, List.getD_eq_getElem?_getD, List.getElem?_eq_getElem hj1, List.getElem?_eq_getElem hj2]
        rfl
      have hsn := sumC_snoc (ls := L1) (l := l) j hj hll.1
      have hj3 : j < ((sumC (L1 ++ [l])).map V.int).length := by rw [List.length_map, sumC_len]; exact hj
      rw [rr, hv, List.take_succ_eq_append_getElem hj3]
      congr 2
      have hj4 : j < (sumC (L1 ++ [l])).length := by rw [sumC_len]; exact hj
      rw [List.getElem?_eq_getElem hj4] at hsn
      rw [List.getElem_map, Option.some.inj hsn]
    · intro d acc F0 F1 H4 st hd f0 ef st1 hl rr
      rw [ef] at st1
      refine ⟨_, d, rfl, e3.trans st.same, .inr ((e1.trans (e2.trans e3)).free hd), (e1.trans (e2.trans e3)).free hd, ?_⟩
      rw [st1.fh _ _ upd_same, rr, es, List.take_of_length_le (by rw [List.length_map, sumC_len]; exact Nat.le_refl _)]
  · rintro σ H3 ⟨v, q0, rfl, e3, _, hq0, hq3⟩
    walk_at "r"
    refine q q0 H3 (e1.trans (e2.trans e3)) hq0 ?_
    rw [hq3, RL.len hr, List.take_length]
abbrev s_cell_of : Stmt := topS 29
theorem sc_cell_of : FnScope ["load"] ["load"] (defScope s_cell_of) := ⟨rfl, rfl, rfl, by decide +kernel, rfl, by decide +kernel, by decide +kernel⟩
def Ok_cell_of (P : Program) (w : World) (K : PySem.W.Frag) (mg : Str → Option Value) (base : Heap) : Prop := ∃ fA fd, Fn P w K mg base (L2.CX P w) 3 "cell_of" s_cell_of fA fd ["load"] (sp_cell_of K mg)
theorem okx_cell_of (Z : Zs K mg) {fA : Addr} {fd : FuncData} (F : Fun K "cell_of" "cell_of" s_cell_of fA fd) (m : mg "cell_of" = some (.ref fA)) (C_check_of : Ok_check_of P w K mg base) : Fn P w K mg base (L2.CX P w) 3 "cell_of" s_cell_of fA fd ["load"] (sp_cell_of K mg) := by
  obtain ⟨_, _, C_check_of⟩ := C_check_of
  refine ⟨F.okX sc_cell_of (fun vs H Q E h => h.1) (fun cdv A outer s H vs Q E hr h => ?_), m, F.kp, F.binds fun _ _ _ _ _ _ us hl => match us, hl with | [_], _ => rfl, F⟩
  have hu64 := hr.units
  obtain ⟨hlen, h⟩ := h
  refine ⟨_, (pss_one (ps_ret (pe_op op_cat (pv 0) (pe_call C_check_of.G (hr.mono (by decide)) rfl C_check_of.m C_check_of.kp C_check_of.b .nil passL (pa_cons (pv 0) pa_nil))))), ?_⟩
  obtain ⟨a, l, rfl, ha, hb, hl, q⟩ := h
  walk_at "r"
  refine ⟨rfl, a, l, rfl, SqL.of ha, hb, fun p H1 e1 p0 hp => ?_⟩
  refine ⟨_, _, _, _, rfl, rfl, e1 _ _ ha, hp, sz (by simp [fixL_len]; omega), fun c hc => ?_⟩
  refine q c _ (e1.trans (Stp.new (S := S0) (Same.refl _) hc).same) (e1.free hc) ?_
  rw [upd_same]; simp [cellC]
abbrev s_protect : Stmt := topS 30
theorem sc_protect : FnScope ["bits", "group", "told", "found", "loads", "load"] ["bits", "group"] (defScope s_protect) := ⟨rfl, rfl, rfl, by decide +kernel, rfl, by decide +kernel, by decide +kernel⟩
def Ok_protect (P : Program) (w : World) (K : PySem.W.Frag) (mg : Str → Option Value) (base : Heap) : Prop := ∃ fA fd, Fn P w K mg base (L2.CX P w) 4 "protect" s_protect fA fd ["bits", "group"] (sp_protect K mg)
theorem okx_protect (Z : Zs K mg) {fA : Addr} {fd : FuncData} (F : Fun K "protect" "protect" s_protect fA fd) (m : mg "protect" = some (.ref fA)) (C_cut_up : Ok_cut_up P w K mg base) (C_sum_of : Ok_sum_of P w K mg base) (C_cell_of : Ok_cell_of P w K mg base) (C_count_bits : Ok_count_bits P w K mg base) (C_want_group : Ok_want_group P w K mg base) (C_check_bits : Ok_check_bits P w K mg base) : Fn P w K mg base (L2.CX P w) 4 "protect" s_protect fA fd ["bits", "group"] (sp_protect K mg) := by
  obtain ⟨_, _, C_cut_up⟩ := C_cut_up
  obtain ⟨_, _, C_sum_of⟩ := C_sum_of
  obtain ⟨_, _, C_cell_of⟩ := C_cell_of
  obtain ⟨_, _, C_count_bits⟩ := C_count_bits
  obtain ⟨_, _, C_want_group⟩ := C_want_group
  obtain ⟨_, _, C_check_bits⟩ := C_check_bits
  refine ⟨F.okX sc_protect (fun vs H Q E h => h.1) (fun cdv A outer s H vs Q E hr h => ?_), m, F.kp, F.binds fun _ _ _ _ _ _ us hl => match us, hl with | [_, _], _ => rfl, F⟩
  have hu64 := hr.units
  obtain ⟨hlen, h⟩ := h
  refine ⟨_, (pss_cons (ps_expr (pe_call C_check_bits.G (hr.mono (by decide)) rfl C_check_bits.m C_check_bits.kp C_check_bits.b .nil (passes_call (takes_of rfl rfl rfl rfl) (fun _ _ _ _ h => h)) (pa_cons (pv 0) pa_nil)))
    (pss_cons (ps_if (pt_cmpR op_gt (pe_callB (c_len K rfl) (by rfl) Z.z_len (by decide +kernel) (pa_cons (pv 0) pa_nil)) (pe_glob (v := .int (1000000)) rfl Z.c_MOST_BITS ⟨_, rfl⟩) (nomark _))
      (pss_one (ps_raise rfl (takes_of rfl rfl rfl rfl) (pmk_own0 PySem.F.excBase_ValueError Z.x_Great.x Z.x_Great.g Z.x_Great.k (raises_own Z.x_Great.b Z.x_Great.t) rfl)))
      pss_nil)
    (pss_cons (ps_expr (pe_call C_want_group.G (hr.mono (by decide)) rfl C_want_group.m C_want_group.kp C_want_group.b .nil (passes_call (takes_of rfl rfl rfl rfl) (fun _ _ _ _ h => h)) (pa_cons (pv 1) pa_nil)))
    (pss_cons (ps_set (i := 2) sc_protect.nd rfl (Or.inl rfl) (pe_op op_cat (pe_call C_count_bits.G (hr.mono (by decide)) rfl C_count_bits.m C_count_bits.kp C_count_bits.b .nil passL (pa_cons (pe_callB (c_len K rfl) (by rfl) Z.z_len (by decide +kernel) (pa_cons (pv 0) pa_nil)) pa_nil)) (pv 0)))
    (pss_cons (ps_set (i := 2) sc_protect.nd rfl (Or.inl rfl) (pe_op op_cat (pv 2) (pe_op op_rep (pe_lst (pa_cons pe_int pa_nil)) (pe_op op_mod (pe_un un_neg (pe_callB (c_len K rfl) (by rfl) Z.z_len (by decide +kernel) (pa_cons (pv 2) pa_nil))) (pe_glob (v := .int (48)) rfl Z.c_LOAD_SIZE ⟨_, rfl⟩)))))
    (pss_cons (ps_set (i := 3) sc_protect.nd rfl (Or.inl rfl) (pe_lst pa_nil))
    (pss_cons (ps_for (passes_of rfl) rfl (pi_list (pe_call C_cut_up.G (hr.mono (by decide)) rfl C_cut_up.m C_cut_up.kp C_cut_up.b .nil passL (pa_cons (pe_call C_cut_up.G (hr.mono (by decide)) rfl C_cut_up.m C_cut_up.kp C_cut_up.b .nil passL (pa_cons (pv 2) (pa_cons (pe_glob (v := .int (48)) rfl Z.c_LOAD_SIZE ⟨_, rfl⟩) pa_nil))) (pa_cons (pv 1) pa_nil)))) (pg_name (i := 4) sc_protect.nd rfl (Or.inl rfl))
      (pss_one (ps_for (passes_of rfl) rfl (pi_list (pe_op op_cat (pv 4) (pe_lst (pa_cons (pe_call C_sum_of.G (hr.mono (by decide)) rfl C_sum_of.m C_sum_of.kp C_sum_of.b .nil passL (pa_cons (pv 4) pa_nil)) pa_nil)))) (pg_name (i := 5) sc_protect.nd rfl (Or.inl rfl))
      (pss_one (ps_expr (pe_bm PySem.F.plainAttrs_list PySem.F.slot_list_extend PySem.F.type_list_extend mt_extend (pv 3) (pa_cons (pe_call C_cell_of.G (hr.mono (by decide)) rfl C_cell_of.m C_cell_of.kp C_cell_of.b .nil passL (pa_cons (pv 5) pa_nil)) pa_nil)))))))
    (pss_one (ps_ret (pv 3)))))))))), ?_⟩
  obtain ⟨a, ns, g, rfl, ha, hl, hh⟩ := h
  walk_at "r"
  refine ⟨rfl, a, ns, rfl, SqL.of ha, ?_⟩
  rcases hh with ⟨hg, q⟩ | ⟨hg, hn, q⟩ | ⟨hg, g1, g8, q⟩
  · exact .inr ⟨hg, q⟩
  · refine .inl ⟨hg, ?_⟩
    walk_at "r"
    refine ifd (fun h => absurd h (by rw [List.length_map]; omega)) (fun _ => ?_)
    walk_at "r"
    exact ⟨rfl, g, rfl, .inr ⟨hn, q⟩⟩
  · refine .inl ⟨hg, ?_⟩
    walk_at "r"
    refine ifd (fun h => absurd h (by rw [List.length_map]; omega)) (fun _ => ?_)
    walk_at "r"
    refine ⟨rfl, g, rfl, .inl ⟨g1, g8, ?_⟩⟩
    walk_at "r"
    refine ⟨rfl, _, rfl, .inl ⟨by omega, by rw [List.length_map]; omega, fun c H1 e1 c0 hc => ?_⟩⟩
    rw [List.length_map, Int.toNat_natCast] at hc
    have hcl := countL_len ns.length (by omega)
    walk_at "r"
    refine ⟨_, _, _, _, rfl, rfl, hc, e1 _ _ ha, sz (by rw [List.length_map, List.length_map]; omega), fun t ht => ?_⟩
    have et : (countL ns.length).map V.int ++ ns.map V.int = (toldC ns).map V.int := by rw [toldC, List.map_append]
    rw [et]
    have e2 : Same H1 (upd H1 t (.lst ((toldC ns).map V.int))) := (Stp.new (S := S0) (Same.refl _) ht).same
    have h2 : upd H1 t (.lst ((toldC ns).map V.int)) t = some (.lst ((toldC ns).map V.int)) := upd_same
    generalize upd H1 t (.lst ((toldC ns).map V.int)) = H2 at e2 h2 ⊢
    have htl : (toldC ns).length ≤ 1100 := by rw [toldC, List.length_append]; omega
    walk_at "r"
    refine ⟨sz (by simp), fun b hb => ?_⟩
    have e3 : Same H2 (upd H2 b (.lst [.int 0])) := (Stp.new (S := S0) (Same.refl _) hb).same
    have h3 : upd H2 b (.lst [.int 0]) b = some (.lst [.int 0]) := upd_same
    generalize upd H2 b (.lst [.int 0]) = H3 at e3 h3 ⊢
    replace h2 := e3 _ _ h2
    walk_at "r"
    refine s_rep h3 (by omega) (by omega) fun b2 hb2 => ?_
    have ek : (-((((toldC ns).map V.int).length : Nat) : Int) % 48).toNat = (48 - (toldC ns).length % 48) % 48 := by rw [List.length_map]; omega
    rw [ek]
    have e4 : Same H3 (upd H3 b2 (.lst (List.replicate ((48 - (toldC ns).length % 48) % 48) (V.int 0)))) := (Stp.new (S := S0) (Same.refl _) hb2).same
    have h4 : upd H3 b2 (.lst (List.replicate ((48 - (toldC ns).length % 48) % 48) (V.int 0))) b2 = some (.lst (List.replicate ((48 - (toldC ns).length % 48) % 48) (V.int 0))) := upd_same
    generalize upd H3 b2 (.lst (List.replicate ((48 - (toldC ns).length % 48) % 48) (V.int 0))) = H4 at e4 h4 ⊢
    replace h2 := e4 _ _ h2
    walk_at "r"
    have ep : (toldC ns).map V.int ++ List.replicate ((48 - (toldC ns).length % 48) % 48) (V.int 0) = (padC (toldC ns)).map V.int := by rw [padC, List.map_append, List.map_replicate]
    have hpl : (padC (toldC ns)).length ≤ 1200 := by rw [padC, List.length_append, List.length_replicate]; omega
    refine ⟨_, _, _, _, rfl, rfl, h2, h4, sz (by rw [List.length_map, List.length_replicate]; omega), fun t2 ht2 => ?_⟩
    rw [ep]
    have e5 : Same H4 (upd H4 t2 (.lst ((padC (toldC ns)).map V.int))) := (Stp.new (S := S0) (Same.refl _) ht2).same
    have h5 : upd H4 t2 (.lst ((padC (toldC ns)).map V.int)) t2 = some (.lst ((padC (toldC ns)).map V.int)) := upd_same
    generalize upd H4 t2 (.lst ((padC (toldC ns)).map V.int)) = H5 at e5 h5 ⊢
    walk_at "r"
    refine ⟨sz (by simp), fun f hf => ?_⟩
    have c6 := Stp.cell (S := S0) (o := .lst []) (Same.refl H5) hf
    have h6 : upd H5 f (.lst []) f = some (.lst []) := upd_same
    have e6 : Same H5 (upd H5 f (.lst [])) := c6.same
    generalize upd H5 f (.lst []) = H6 at c6 h6 e6 ⊢
    have e06 : Same H H6 := e1.trans (e2.trans (e3.trans (e4.trans (e5.trans e6))))
    have f0 : H f = none := (e1.trans (e2.trans (e3.trans (e4.trans e5)))).free hf
    walk_at "r"
    obtain ⟨gn, rfl⟩ : ∃ gn : Nat, g = gn := ⟨g.toNat, by omega⟩
    rw [Int.toNat_natCast] at q
    have gn0 : 0 < gn := by omega
    refine ⟨rfl, H5, t2, _, 48, rfl, e6, SqL.of h5, by decide, by decide, by rw [List.length_map]; omega, fun p1 F1 H7 acc1 st1 hp1 lv1 => ?_⟩
    rw [chunk_map (by decide)] at lv1
    have lds := loads_ok (all_good.mp hg) (by omega)
    have hll : (loadsC ns).length ≤ 1300 := by
      rw [loadsC, chunk_len (by decide)]
      exact Nat.le_trans (Nat.div_le_self _ _) (by omega)
    change RL F1 acc1 (loadsC ns) at lv1
    have f1n : F1 f = none := (st1.fo _ _ h6).trans hf
    have h7 : H7 f = some (.lst []) := st1.same _ _ h6
    walk_at "r"
    refine ⟨rfl, F1, p1, acc1, gn, rfl, st1.fh, SqL.of hp1, gn0, by omega, by rw [RL.len lv1]; omega, fun p2 F2 H8 acc2 st2 hp2 lv2 => ?_⟩
    have f2n : F2 f = none := (st2.fo _ _ h7).trans f1n
    have h8 : H8 f = some (.lst []) := st2.same _ _ h7
    have lv1' : RL F2 acc1 (loadsC ns) := LV.mono st2.ff lv1
    walk_at "r"
    refine ⟨p2, rfl, ⟨_, SqL.of (st2.fh _ _ hp2)⟩, ?_⟩
    have hcl2 : acc2.length = (chunk gn (loadsC ns)).length := by rw [lv2.len, chunk_len gn0, chunk_len gn0, RL.len lv1]
    have hcl3 : (chunk gn (loadsC ns)).length ≤ 1400 := by
      rw [chunk_len gn0]
      exact Nat.le_trans (Nat.div_le_self _ _) (by omega)
    refine forL (xs := acc2) (fun i σ H' => ∃ v4 v5 fd, σ = [some (.ref a), some (.int gn), some (.ref t2), some (.ref f), v4, v5] ∧ Same F2 H' ∧ Same H H' ∧ fd = (((chunk gn (loadsC ns)).take i).map grpC).flatten.flatten ∧ fd.length ≤ 504 * i ∧ H' f = some (.lst (fd.map V.int)))
      ⟨_, _, _, rfl, st2.fh, e06.trans (st1.same.trans st2.same), rfl, by simp, by rw [h8]; simp⟩ (fun i σ H' _ ⟨_, _, _, _, s, _⟩ => s.seq (SqL.of hp2)) ?_ ?_
    · rintro i x σ H9 hx ⟨v4, v5, fd, rfl, e9, e09, hfd, hfl, h9⟩
      obtain ⟨b, l, rfl, hl1, hb⟩ := LV.get i lv2 hx
      have hi : i < (chunk gn acc1).length := (List.getElem?_eq_some_iff.mp hl1).1
      have hi2 : i < (chunk gn (loadsC ns)).length := by rw [← hcl2, lv2.len]; exact hi
      rw [chunk_get gn0 _ i hi] at hl1
      obtain ⟨s, hs⟩ : ∃ s, (chunk gn (loadsC ns))[i]? = some s := ⟨_, List.getElem?_eq_getElem hi2⟩
      have hs2 := hs
      rw [chunk_get gn0 _ i hi2] at hs2
      have rl : RL F2 l s := by
        rw [← Option.some.inj hl1, ← Option.some.inj hs2]
        exact RL.take _ (RL.drop _ lv1')
      have hsm := List.mem_of_getElem? hs
      have slen : s.length ≤ gn := by rw [← Option.some.inj hs2, List.length_take]; omega
      have ldg := grp_ok gn0 lds s hsm
      have sne : s ≠ [] := fun z => by
        have hb := chunk_blk gn0 (loadsC ns)
        subst z
        have : ∀ bs : List (List (List Int)), Blk gn bs → [] ∉ bs := by
          intro bs
          induction bs with
          | nil => intro _ h; cases h
          | cons x r ih =>
            intro hk hm
            cases r with
            | nil =>
              have hk : 0 < x.length ∧ x.length ≤ gn := hk
              rw [List.mem_singleton] at hm
              rw [← hm] at hk
              exact absurd hk.1 (by simp)
            | cons y r =>
              have hk := hk.cons
              rcases List.mem_cons.mp hm with hm | hm
              · rw [← hm] at hk; exact absurd hk.1 (by simp; omega)
              · exact ih hk.2 hm
        exact this _ hb hsm
      walk_at "r"
      refine ⟨rfl, b, l, s, rfl, SqL.of (e9 _ _ hb), LV.mono e9 rl, sne, by omega, fun l hl => ldg l (List.mem_append_left _ hl), fun u H10 e10 u0 hu => ?_⟩
      walk_at "r"
      refine ⟨sz (by simp), fun w hw => ?_⟩
      have e11 : Same H10 (upd H10 w (.lst [.ref u])) := (Stp.new (S := S0) (Same.refl _) hw).same
      have h11 : upd H10 w (.lst [.ref u]) w = some (.lst [.ref u]) := upd_same
      generalize upd H10 w (.lst [.ref u]) = H11 at e11 h11 ⊢
      walk_at "r"
      have hll2 : l.length = s.length := RL.len rl
      refine ⟨_, _, _, _, rfl, rfl, (e9.trans (e10.trans e11)) _ _ hb, h11, sz (by rw [hll2, List.length_singleton]; omega), fun c2 hc2 => ?_⟩
      have e12 : Same H11 (upd H11 c2 (.lst (l ++ [.ref u]))) := (Stp.new (S := S0) (Same.refl _) hc2).same
      have h12 : upd H11 c2 (.lst (l ++ [.ref u])) c2 = some (.lst (l ++ [.ref u])) := upd_same
      have c20 : H9 c2 = none := (e10.trans e11).free hc2
      generalize upd H11 c2 (.lst (l ++ [.ref u])) = H12 at e12 h12 ⊢
      have e912 : Same H9 H12 := e10.trans (e11.trans e12)
      have fF : Same F2 (delH H12 f) := Same.del (e9.trans e912) f2n
      have fn : delH H12 f f = none := delH_none _ _
      have rlc : RL (delH H12 f) (l ++ [.ref u]) (s ++ [sumC s]) := RL.snoc (LV.mono fF rl) (delH_at ((e11.trans e12) _ _ hu) (fun z => by rw [z, h9] at u0; cases u0))
      have hc : delH H12 f c2 = some (.lst (l ++ [.ref u])) := delH_at h12 (fun z => by rw [z, h9] at c20; cases c20)
      have hF : Same (delH H12 f) H12 := delH_same _ _
      generalize delH H12 f = F3 at fF fn rlc hc hF
      refine ⟨c2, rfl, ⟨_, SqL.of h12⟩, ?_⟩
      refine forL (xs := l ++ [.ref u]) (fun j σ H' => ∃ v5 fe, σ = [some (.ref a), some (.int gn), some (.ref t2), some (.ref f), some (.ref b), v5] ∧ Same F3 H' ∧ Same H H' ∧ fe = fd ++ (((s ++ [sumC s]).take j).map cellC).flatten ∧ fe.length ≤ 504 * i + 56 * j ∧ H' f = some (.lst (fe.map V.int)))
        ⟨_, _, rfl, hF, e09.trans e912, rfl, by simpa using hfl, by rw [e912 _ _ h9]; simp⟩ (fun j σ H' _ ⟨_, _, _, s, _⟩ => s.seq (SqL.of hc)) ?_ ?_
      · rintro j x σ H13 hx ⟨v5, fe, rfl, e13, e013, hfe, hfel, h13⟩
        obtain ⟨b3, l3, rfl, hl3, hb3⟩ := RL.get rlc j hx
        have ld3 := ldg l3 (List.mem_of_getElem? hl3)
        have hj : j < (s ++ [sumC s]).length := (List.getElem?_eq_some_iff.mp hl3).1
        have hj9 : j ≤ 8 := by rw [List.length_append, List.length_singleton] at hj; omega
        have hi13 : i < 1400 := by omega
        walk_at "r"
        refine ⟨.inl ⟨rfl, _, SqL.of h13⟩, ?_⟩
        walk_at "r"
        refine ⟨rfl, b3, l3, rfl, e13 _ _ hb3, ld3.2, by rw [ld3.1]; decide, fun y H14 e14 y0 hy => ?_⟩
        walk_at "r"
        have hc56 := cellC_len ld3.1
        refine ⟨f, y, _, _, rfl, rfl, e14 _ _ h13, hy, Nat.le_trans (m := 1000000) (by rw [List.length_map, List.length_map, hc56]; omega) (by decide), ?_⟩
        have w15 := Stp.wr (S := S1 f) (o := .lst (fe.map V.int ++ (cellC l3).map V.int)) (e13.trans e14) rfl fn
        refine ⟨_, fe ++ cellC l3, rfl, w15.fh, fun b' o' h' => ?_, ?_, by rw [List.length_append, hc56]; omega, by rw [upd_same, List.map_append]⟩
        · rw [upd_ne (ne_of_none h' f0)]; exact e14 _ _ (e013 _ _ h')
        · rw [List.take_succ_eq_append_getElem hj, List.map_append, List.flatten_append, hfe, List.append_assoc]
          rw [List.getElem?_eq_getElem hj] at hl3
          rw [Option.some.inj hl3]; simp
      · rintro σ H13 ⟨v5, fe, rfl, e13, e013, hfe, hfel, h13⟩
        refine ⟨_, _, fe, rfl, fF.trans e13, e013, ?_, ?_, h13⟩
        · rw [List.take_of_length_le (by rw [List.length_append, List.length_append, hll2]; exact Nat.le_refl _)] at hfe
          rw [List.getElem?_eq_getElem hi2] at hs
          rw [List.take_succ_eq_append_getElem hi2, List.map_append, List.flatten_append, List.flatten_append, hfe, hfd, Option.some.inj hs]
          simp [grpC]
        · rw [List.length_append, hll2, List.length_singleton] at hfel
          omega
    · rintro σ H9 ⟨v4, v5, fd, rfl, e9, e09, hfd, hfl, h9⟩
      walk_at "r"
      refine q f H9 e09 f0 ?_
      rw [h9, hfd, hcl2, List.take_length]
      rfl
abbrev s_is_good : Stmt := topS 31
theorem sc_is_good : FnScope ["cell"] ["cell"] (defScope s_is_good) := ⟨rfl, rfl, rfl, by decide +kernel, rfl, by decide +kernel, by decide +kernel⟩
def Ok_is_good (P : Program) (w : World) (K : PySem.W.Frag) (mg : Str → Option Value) (base : Heap) : Prop := ∃ fA fd, Fn P w K mg base (L2.CX P w) 3 "is_good" s_is_good fA fd ["cell"] (sp_is_good K mg)
theorem okx_is_good (Z : Zs K mg) {fA : Addr} {fd : FuncData} (F : Fun K "is_good" "is_good" s_is_good fA fd) (m : mg "is_good" = some (.ref fA)) (C_check_of : Ok_check_of P w K mg base) : Fn P w K mg base (L2.CX P w) 3 "is_good" s_is_good fA fd ["cell"] (sp_is_good K mg) := by
  obtain ⟨_, _, C_check_of⟩ := C_check_of
  refine ⟨F.okX sc_is_good (fun vs H Q E h => h.1) (fun cdv A outer s H vs Q E hr h => ?_), m, F.kp, F.binds fun _ _ _ _ _ _ us hl => match us, hl with | [_], _ => rfl, F⟩
  have hu64 := hr.units
  obtain ⟨hlen, h⟩ := h
  refine ⟨_, (pss_one (ps_ret (pe_cmpR (o_eqD K rfl hu64) (pe_slice (l_list K rfl) (pv 0) (po_some (pe_glob (v := .int (48)) rfl Z.c_LOAD_SIZE ⟨_, rfl⟩)) po_none) (pe_call C_check_of.G (hr.mono (by decide)) rfl C_check_of.m C_check_of.kp C_check_of.b .nil passL (pa_cons (pe_slice (l_list K rfl) (pv 0) po_none (po_some (pe_glob (v := .int (48)) rfl Z.c_LOAD_SIZE ⟨_, rfl⟩))) pa_nil)) (nomark _)))), ?_⟩
  obtain ⟨a, c, rfl, hS, hb, q⟩ := h
  walk_at "r"
  refine s_slL hS fun p hp => ?_
  have s1 := Stp.new (S := S0) (o := .lst (cutV (c.map V.int) (some 48) none)) (Same.refl H) hp
  walk_at "r"
  refine s_slL (s1.same.seq hS) fun p2 hp2 => ?_
  have s2 := Stp.new (S := S0) (o := .lst (cutV (c.map V.int) none (some 48))) s1.fh hp2
  have e1 : cutV (c.map V.int) (some 48) none = (c.drop 48).map V.int := by rw [show (some (48 : Int)) = some ((48 : Nat) : Int) from rfl, cutV_from, List.map_drop]
  have e2 : cutV (c.map V.int) none (some 48) = (c.take 48).map V.int := by rw [show (some (48 : Int)) = some ((48 : Nat) : Int) from rfl, cutV_to, List.map_take]
  walk_at "r"
  refine ⟨rfl, p2, c.take 48, rfl, SqL.of (by rw [upd_same, e2]), fun b hb2 => hb b (List.mem_of_mem_take hb2), fun p3 H3 s3 hp3 h3 => ?_⟩
  have hh := (s1.trans s2).same.trans s3
  refine s_eqL (ns := c.drop 48) (ms := fixL 8 (chk (c.take 48))) (SqL.of (s3 _ _ (s2.same _ _ ?_))) (SqL.of h3) (q H3 hh)
  rw [upd_same, e1]
abbrev s_cells_of : Stmt := topS 32
theorem sc_cells_of : FnScope ["protected", "group", "many", "rest"] ["protected", "group"] (defScope s_cells_of) := ⟨rfl, rfl, rfl, by decide +kernel, rfl, by decide +kernel, by decide +kernel⟩
def Ok_cells_of (P : Program) (w : World) (K : PySem.W.Frag) (mg : Str → Option Value) (base : Heap) : Prop := ∃ fA fd, Fn P w K mg base (L2.CX P w) 3 "cells_of" s_cells_of fA fd ["protected", "group"] (sp_cells_of K mg)
theorem okx_cells_of (Z : Zs K mg) {fA : Addr} {fd : FuncData} (F : Fun K "cells_of" "cells_of" s_cells_of fA fd) (m : mg "cells_of" = some (.ref fA)) (C_cut_up : Ok_cut_up P w K mg base) (C_want_group : Ok_want_group P w K mg base) (C_check_bits : Ok_check_bits P w K mg base) : Fn P w K mg base (L2.CX P w) 3 "cells_of" s_cells_of fA fd ["protected", "group"] (sp_cells_of K mg) := by
  obtain ⟨_, _, C_cut_up⟩ := C_cut_up
  obtain ⟨_, _, C_want_group⟩ := C_want_group
  obtain ⟨_, _, C_check_bits⟩ := C_check_bits
  refine ⟨F.okX sc_cells_of (fun vs H Q E h => h.1) (fun cdv A outer s H vs Q E hr h => ?_), m, F.kp, F.binds fun _ _ _ _ _ _ us hl => match us, hl with | [_, _], _ => rfl, F⟩
  have hu64 := hr.units
  obtain ⟨hlen, h⟩ := h
  refine ⟨_, (pss_cons (ps_expr (pe_call C_check_bits.G (hr.mono (by decide)) rfl C_check_bits.m C_check_bits.kp C_check_bits.b .nil passL (pa_cons (pv 0) pa_nil)))
    (pss_cons (ps_expr (pe_call C_want_group.G (hr.mono (by decide)) rfl C_want_group.m C_want_group.kp C_want_group.b .nil passL (pa_cons (pv 1) pa_nil)))
    (pss_cons (ps_asg (pe_callB c_divmod (by rfl) Z.z_divmod (by decide +kernel) (pa_cons (pe_callB (c_len K rfl) (by rfl) Z.z_len (by decide +kernel) (pa_cons (pv 0) pa_nil)) (pa_cons (pe_glob (v := .int (56)) rfl Z.c_CELL_SIZE ⟨_, rfl⟩) pa_nil))) (pg_tup rfl (pgs_cons (pg_name (i := 2) sc_cells_of.nd rfl (Or.inl rfl)) (pgs_cons (pg_name (i := 3) sc_cells_of.nd rfl (Or.inl rfl)) pgs_nil))))
    (pss_cons (ps_if (PW.pt (pw_or (pt_cmpR op_ne (pv 3) pe_int (nomark _)) (pw_or (pt_cmpR op_eq (pv 2) pe_int (nomark _)) (pw_or1 (pt_cmpR op_eq (pe_op op_mod (pv 2) (pe_op op_add (pv 1) pe_int)) pe_int (nomark _))))))
      (pss_one (ps_raise rfl (takes_of rfl rfl rfl rfl) (pmk_own0 PySem.F.excBase_ValueError Z.x_BadCells.x Z.x_BadCells.g Z.x_BadCells.k (raises_own Z.x_BadCells.b Z.x_BadCells.t) rfl)))
      pss_nil)
    (pss_one (ps_ret (pe_call C_cut_up.G (hr.mono (by decide)) rfl C_cut_up.m C_cut_up.kp C_cut_up.b .nil passL (pa_cons (pv 0) (pa_cons (pe_glob (v := .int (56)) rfl Z.c_CELL_SIZE ⟨_, rfl⟩) pa_nil))))))))), ?_⟩
  obtain ⟨F, a, bs, g, n, rfl, hF, hS, hb, hlen, hn0, hn, hg1, hg2, hm, q⟩ := h
  walk_at "r"
  refine ⟨rfl, a, bs, rfl, hF.seq hS, .inl ⟨all_good.mpr hb, ?_⟩⟩
  walk_at "r"
  refine ⟨rfl, g, rfl, .inl ⟨hg1, hg2, ?_⟩⟩
  walk_at "r"
  refine s_len (hF.seq hS) ?_
  walk_at "r"
  have el : ((bs.map V.int).length : Int) = (n : Int) * 56 := by rw [List.length_map, hlen]; simp
  refine ⟨_, _, rfl, ⟨by decide, by decide⟩, fun t ht => ?_⟩
  have e1 : Same H (upd H t (.tup [.int (((bs.map V.int).length : Int) / 56), .int (((bs.map V.int).length : Int) % 56)])) := (Stp.new (S := S0) (Same.refl H) ht).same
  have h1 : upd H t (.tup [.int (((bs.map V.int).length : Int) / 56), .int (((bs.map V.int).length : Int) % 56)]) t = some (.tup [.int (((bs.map V.int).length : Int) / 56), .int (((bs.map V.int).length : Int) % 56)]) := upd_same
  generalize upd H t (.tup [.int (((bs.map V.int).length : Int) / 56), .int (((bs.map V.int).length : Int) % 56)]) = H1 at e1 h1 ⊢
  walk_at "r"
  refine ifn (fun _ => ?_) (fun h => absurd (by rw [el]; omega) h)
  walk_at "r"
  refine ifd (fun h => absurd h (by rw [el]; omega)) (fun _ => ?_)
  walk_at "r"
  refine ifd (fun h => absurd h ?_) (fun _ => ?_)
  · rw [el, show (n : Int) * 56 / 56 = n by omega]; exact hm
  walk_at "r"
  refine ⟨rfl, F, a, bs.map V.int, 56, rfl, hF.trans e1, hS, by decide, by decide, by rw [List.length_map, hlen]; omega, fun p F' H' acc st hp lv => ?_⟩
  rw [chunk_map (by decide)] at lv
  exact q p F' H' acc ((Stp.ofSame hF e1).trans st) hp lv
abbrev s_opened_group : Stmt := topS 33
theorem sc_opened_group : FnScope ["cells", "loads", "bad", "number", "others", "cell", "at", "load"] ["cells"] (defScope s_opened_group) := ⟨rfl, rfl, rfl, by decide +kernel, rfl, by decide +kernel, by decide +kernel⟩
def Ok_opened_group (P : Program) (w : World) (K : PySem.W.Frag) (mg : Str → Option Value) (base : Heap) : Prop := ∃ fA fd, Fn P w K mg base (L2.CX P w) 4 "opened_group" s_opened_group fA fd ["cells"] (sp_opened_group K mg)
theorem okx_opened_group (Z : Zs K mg) {fA : Addr} {fd : FuncData} (F : Fun K "opened_group" "opened_group" s_opened_group fA fd) (m : mg "opened_group" = some (.ref fA)) (C_sum_of : Ok_sum_of P w K mg base) (C_is_good : Ok_is_good P w K mg base) : Fn P w K mg base (L2.CX P w) 4 "opened_group" s_opened_group fA fd ["cells"] (sp_opened_group K mg) := by
  obtain ⟨_, _, C_sum_of⟩ := C_sum_of
  obtain ⟨_, _, C_is_good⟩ := C_is_good
  refine ⟨F.okX sc_opened_group (fun vs H Q E h => h.1) (fun cdv A outer s H vs Q E hr h => ?_), m, F.kp, F.binds fun _ _ _ _ _ _ us hl => match us, hl with | [_], _ => rfl, F⟩
  have hu64 := hr.units
  obtain ⟨hlen, h⟩ := h
  refine ⟨_, (pss_cons (ps_setLc (i := 1) (own := [("cell", 5)]) (g := gName 5) (tt := tYes) (by rfl) sc_opened_group.nd rfl rfl (sw_true rfl rfl rfl (by decide +kernel)) (pi_list (pv 0)) (blkOk_by (own := [("cell", 5)]) (N := ["cells", "loads", "bad", "number", "others", "cell", "at", "load"]) (sc := defScope s_opened_group) (by decide +kernel)) (fun _ _ _ _ _ => (pg_name (i := 5) sc_opened_group.nd rfl (Or.inl rfl))) (fun _ _ _ _ _ => pts_nil) (fun _ _ _ _ _ => (pe_slice (l_list K rfl) (pv 5) po_none (po_some (pe_glob (v := .int (48)) rfl Z.c_LOAD_SIZE ⟨_, rfl⟩)))))
    (pss_cons (ps_setLc (i := 2) (own := [("number", 3), ("cell", 5)]) (g := gTup K 2 (gCons (gName 3) (gCons (gName 5) gNil))) (tt := _) (by rfl) sc_opened_group.nd rfl rfl (sw_true rfl rfl rfl (by decide +kernel)) (pi_enum (by rfl) Z.z_enumerate (pa_cons (pv 0) pa_nil)) (blkOk_by (own := [("number", 3), ("cell", 5)]) (N := ["cells", "loads", "bad", "number", "others", "cell", "at", "load"]) (sc := defScope s_opened_group) (by decide +kernel)) (fun _ _ _ _ _ => (pg_tup rfl (pgs_cons (pg_name (i := 3) sc_opened_group.nd rfl (Or.inl rfl) (Or.inr rfl)) (pgs_cons (pg_name (i := 5) sc_opened_group.nd rfl (Or.inl rfl) (Or.inr rfl)) pgs_nil)))) (fun _ _ _ _ _ => pts_one (pt_not (pt_val (pe_call C_is_good.G (hr.mono (by decide)) rfl C_is_good.m C_is_good.kp C_is_good.b .nil passL (pa_cons (pv 5) pa_nil))))) (fun _ _ _ _ _ => (pv 3)))
    (pss_cons (ps_for (passes_of rfl) rfl (pi_list (pv 2)) (pg_name (i := 3) sc_opened_group.nd rfl (Or.inr rfl))
      (pss_cons (ps_setLc (i := 4) (own := [("at", 6), ("load", 7)]) (g := gTup K 2 (gCons (gName 6) (gCons (gName 7) gNil))) (tt := _) (by rfl) sc_opened_group.nd rfl rfl (sw_true rfl rfl rfl (by decide +kernel)) (pi_enum (by rfl) Z.z_enumerate (pa_cons (pv 1) pa_nil)) (blkOk_by (own := [("at", 6), ("load", 7)]) (N := ["cells", "loads", "bad", "number", "others", "cell", "at", "load"]) (sc := defScope s_opened_group) (by decide +kernel)) (fun _ _ _ _ _ => (pg_tup rfl (pgs_cons (pg_name (i := 6) sc_opened_group.nd rfl (Or.inl rfl) (Or.inr rfl)) (pgs_cons (pg_name (i := 7) sc_opened_group.nd rfl (Or.inl rfl) (Or.inr rfl)) pgs_nil)))) (fun _ _ _ _ _ => pts_one (pt_cmpR op_ne (pv 6) (pv 3) (nomark _))) (fun _ _ _ _ _ => (pv 7)))
    (pss_one (ps_asg (pe_ifExp (pt_cmpR op_eq (pe_callB (c_len K rfl) (by rfl) Z.z_len (by decide +kernel) (pa_cons (pv 2) pa_nil)) pe_int (nomark _)) (pe_call C_sum_of.G (hr.mono (by decide)) rfl C_sum_of.m C_sum_of.kp C_sum_of.b .nil passL (pa_cons (pv 4) pa_nil)) pe_non) (pg_sub (pv 1) (pv 3) set_list)))))
    (pss_one (ps_ret (pe_slice (l_list K rfl) (pv 1) po_none (po_some (pe_un un_neg pe_int)))))))), ?_⟩
  obtain ⟨F, a, us, s, rfl, hF, hS, hR, hn, hL, q⟩ := h
  walk_at "r"
  have hul : us.length = s.length := by rw [RL.len hR, List.length_map]
  refine ⟨a, rfl, ⟨_, hF.seq hS⟩, ?_⟩
  refine lcW (walk_list (xs := us)) S0 hF (fun _ z => z.elim) (fun F1 H1 st => st.same.seq (hF.seq hS)) (fun i acc F1 H1 => RL F1 acc (s.take i)) (fun _ _ _ _ _ _ _ _ _ r => r) .nil ?_ ?_
  · rintro i x acc d F1 H1 H2 hi ⟨rfl, hx⟩ hd nS st f0 e hl rr
    obtain ⟨b, c, rfl, hc, hb⟩ := RL.get hR i hx
    have his : i < s.length := by omega
    rw [List.getElem?_map, List.getElem?_eq_getElem his] at hc
    obtain rfl := Option.some.inj hc
    have ld := hL _ (List.getElem_mem his)
    walk_at "r"
    refine s_slL (SqL.of ((hF.trans st.same) _ _ hb)) fun p hp => ?_
    have ec : cutV ((cellC s[i]).map V.int) none (some 48) = (s[i]).map V.int := by rw [show (some (48 : Int)) = some ((48 : Nat) : Int) from rfl, cutV_to, ← List.map_take, cellC_take ld.1]
    rw [ec]
    have s4 := Stp.new (S := S0) (o := .lst ((s[i]).map V.int)) st.fh hp
    refine lc_end hd nS st f0 e hl (by omega) s4 ?_
    rw [List.take_succ_eq_append_getElem his]
    exact RL.snoc (LV.mono s4.ff rr) upd_same
  · intro d acc F0 F1 H1 st hd f0 ef st1 hl rr
    have hd1 : F1 d = some (.lst acc) := by rw [ef]; exact upd_same
    have rr1 : RL F1 acc (s.take us.length) := LV.mono (by rw [ef]; exact (Stp.new (S := S0) (Same.refl F0) f0).ff) rr
    rw [hul, List.take_length] at rr1
    have hS1 : SqL K F1 a us := st1.ff.seq hS
    have hR1 : RL F1 us (s.map cellC) := LV.mono st1.ff hR
    clear ef rr st f0 F0
    walk_at "r"
    refine s_iE ?_
    walk_at "r"
    refine ⟨a, us, rfl, st1.fh.seq hS1, ?_⟩
    refine lcW (walk_enum (xs := us)) S0 st1.fh (fun _ z => z.elim) (fun F2 H2 st => st.same.seq (st1.fh.seq hS1)) (fun i acc F2 H2 => acc = []) (fun _ _ _ _ _ _ _ _ _ r => r) rfl ?_ ?_
    · rintro i x acc2 d2 F2 H2 H3 hi ⟨T, x1, y1, rfl, hT, rfl, hx1, hy1⟩ hd2 nS st f0 e hl2 rr
      obtain ⟨b, c, rfl, hc, hb⟩ := RL.get hR1 i hy1
      have his : i < s.length := by omega
      rw [List.getElem?_map, List.getElem?_eq_getElem his] at hc
      obtain rfl := Option.some.inj hc
      have ld := hL _ (List.getElem_mem his)
      have e3 : Same H2 (upd H2 T (.tup [x1, V.ref b])) := (Stp.new (S := S0) (Same.refl _) hT).same
      walk_at "r"
      refine ⟨rfl, b, cellC s[i], rfl, SqL.of (e3 _ _ ((st1.fh.trans st.same) _ _ hb)), cellC_bits ld.2, fun H4 e4 => ?_⟩
      have gg : goodL (cellC s[i]) = true := decide_eq_true (by rw [cellC_drop ld.1, cellC_take ld.1])
      rw [gg]
      walk_at "r"
      exact lc_skip hd2 nS st f0 e hl2 (.ofSame st.fh (e3.trans e4)) rr
    · intro d2 acc2 F2 F3 H3 st2 hd2 f02 ef2 st3 hl2 rr2
      subst rr2
      have hd3 : F3 d2 = some (.lst []) := by rw [ef2]; exact upd_same
      walk_at "r"
      refine ⟨d2, rfl, ⟨_, SqL.of (st3.fh _ _ hd3)⟩, ?_⟩
      refine forL (xs := []) (fun i σ H' => H' = H3 ∧ ∃ v3 v4, σ = [some (.ref a), some (.ref d), some (.ref d2), v3, v4, none, none, none]) ⟨rfl, _, _, rfl⟩ (fun i σ H' _ ⟨e, _⟩ => e ▸ SqL.of (st3.fh _ _ hd3)) (fun i x σ H' hx => by simp at hx) ?_
      rintro σ H' ⟨rfl, v3, v4, rfl⟩
      walk_at "r"
      refine s_slL (SqL.of (st3.fh _ _ (st3.ff _ _ hd1))) fun p hp => ?_
      rw [cutV_m1]
      have s4 := Stp.new (S := S0) (o := .lst acc.dropLast) st3.fh hp
      refine q p _ _ acc.dropLast ((st1.trans st3).trans s4) upd_same ?_
      have := RL.take (acc.length - 1) (LV.mono (st3.ff.trans s4.ff) rr1)
      rw [← List.dropLast_eq_take, RL.len rr1, ← List.dropLast_eq_take] at this
      exact this
abbrev s_count_told : Stmt := topS 34
theorem sc_count_told : FnScope ["load", "told"] ["load"] (defScope s_count_told) := ⟨rfl, rfl, rfl, by decide +kernel, rfl, by decide +kernel, by decide +kernel⟩
def Ok_count_told (P : Program) (w : World) (K : PySem.W.Frag) (mg : Str → Option Value) (base : Heap) : Prop := ∃ fA fd, Fn P w K mg base (L2.CX P w) 3 "count_told" s_count_told fA fd ["load"] (sp_count_told K mg)
theorem okx_count_told (Z : Zs K mg) {fA : Addr} {fd : FuncData} (F : Fun K "count_told" "count_told" s_count_told fA fd) (m : mg "count_told" = some (.ref fA)) (C_count_at : Ok_count_at P w K mg base) : Fn P w K mg base (L2.CX P w) 3 "count_told" s_count_told fA fd ["load"] (sp_count_told K mg) := by
  obtain ⟨_, _, C_count_at⟩ := C_count_at
  refine ⟨F.okX sc_count_told (fun vs H Q E h => h.1) (fun cdv A outer s H vs Q E hr h => ?_), m, F.kp, F.binds fun _ _ _ _ _ _ us hl => match us, hl with | [_], _ => rfl, F⟩
  have hu64 := hr.units
  obtain ⟨hlen, h⟩ := h
  refine ⟨_, (pss_cons (ps_set (i := 1) sc_count_told.nd rfl (Or.inl rfl) (pe_call C_count_at.G (hr.mono (by decide)) rfl C_count_at.m C_count_at.kp C_count_at.b .nil passL (pa_cons (pv 0) (pa_cons pe_int pa_nil))))
    (pss_cons (ps_if (PW.pt (pw_or (pt_cmpR op_ne (pe_ix (i_tup K rfl) (pv 1) pe_int (fun _ _ => rfl)) pe_str (nomark _)) (pw_or1 (pt_cmpR op_gt (pe_ix (i_tup K rfl) (pv 1) pe_int (fun _ _ => rfl)) (pe_glob (v := .int (1000000)) rfl Z.c_MOST_BITS ⟨_, rfl⟩) (nomark _)))))
      (pss_one (ps_raise rfl (takes_of rfl rfl rfl rfl) (pmk_own0 PySem.F.excBase_ValueError Z.x_BadCells.x Z.x_BadCells.g Z.x_BadCells.k (raises_own Z.x_BadCells.b Z.x_BadCells.t) rfl)))
      pss_nil)
    (pss_one (ps_ret (pe_tup (pa_cons (pe_ix (i_tup K rfl) (pv 1) pe_int (fun _ _ => rfl)) (pa_cons (pe_ix (i_tup K rfl) (pv 1) pe_int (fun _ _ => rfl)) pa_nil))))))), ?_⟩
  obtain ⟨a, l, n, p, rfl, hS, hl, hc, hn, q⟩ := h
  walk_at "r"
  refine ⟨rfl, a, l, 0, rfl, hS, by omega, by omega, fun t H1 e1 _ ht => ?_⟩
  rw [hc] at ht
  walk_at "r"
  refine ifn (fun _ => ?_) (fun h => absurd rfl h)
  walk_at "r"
  refine ifd (fun h => absurd h (by omega)) (fun _ => ?_)
  walk_at "r"
  refine ⟨sz (by simp), fun p2 hp2 => q p2 _ (e1.trans (Stp.new (S := S0) (Same.refl _) hp2).same) upd_same⟩
abbrev s_open_cells : Stmt := topS 35
theorem sc_open_cells : FnScope ["protected", "group", "loads", "cells", "many", "begin", "end", "told", "load"] ["protected", "group"] (defScope s_open_cells) := ⟨rfl, rfl, rfl, by decide +kernel, rfl, by decide +kernel, by decide +kernel⟩
def Ok_open_cells (P : Program) (w : World) (K : PySem.W.Frag) (mg : Str → Option Value) (base : Heap) : Prop := ∃ fA fd, Fn P w K mg base (L2.CX P w) 5 "open_cells" s_open_cells fA fd ["protected", "group"] (sp_open_cells K mg)
theorem okx_open_cells (Z : Zs K mg) {fA : Addr} {fd : FuncData} (F : Fun K "open_cells" "open_cells" s_open_cells fA fd) (m : mg "open_cells" = some (.ref fA)) (C_count_told : Ok_count_told P w K mg base) (C_cut_up : Ok_cut_up P w K mg base) (C_cells_of : Ok_cells_of P w K mg base) (C_opened_group : Ok_opened_group P w K mg base) : Fn P w K mg base (L2.CX P w) 5 "open_cells" s_open_cells fA fd ["protected", "group"] (sp_open_cells K mg) := by
  obtain ⟨_, _, C_count_told⟩ := C_count_told
  obtain ⟨_, _, C_cut_up⟩ := C_cut_up
  obtain ⟨_, _, C_cells_of⟩ := C_cells_of
  obtain ⟨_, _, C_opened_group⟩ := C_opened_group
  refine ⟨F.okX sc_open_cells (fun vs H Q E h => h.1) (fun cdv A outer s H vs Q E hr h => ?_), m, F.kp, F.binds fun _ _ _ _ _ _ us hl => match us, hl with | [_, _], _ => rfl, F⟩
  have hu64 := hr.units
  obtain ⟨hlen, h⟩ := h
  refine ⟨_, (pss_cons (ps_set (i := 2) sc_open_cells.nd rfl (Or.inl rfl) (pe_lst pa_nil))
    (pss_cons (ps_for (passes_of rfl) rfl (pi_list (pe_call C_cut_up.G (hr.mono (by decide)) rfl C_cut_up.m C_cut_up.kp C_cut_up.b .nil passL (pa_cons (pe_call C_cells_of.G (hr.mono (by decide)) rfl C_cells_of.m C_cells_of.kp C_cells_of.b .nil passL (pa_cons (pv 0) (pa_cons (pv 1) pa_nil))) (pa_cons (pe_op op_add (pv 1) pe_int) pa_nil)))) (pg_name (i := 3) sc_open_cells.nd rfl (Or.inl rfl))
      (pss_one (ps_expr (pe_bm PySem.F.plainAttrs_list PySem.F.slot_list_extend PySem.F.type_list_extend mt_extend (pv 2) (pa_cons (pe_call C_opened_group.G (hr.mono (by decide)) rfl C_opened_group.m C_opened_group.kp C_opened_group.b .nil passL (pa_cons (pv 3) pa_nil)) pa_nil)))))
    (pss_cons (ps_if (pt_cmpR op_isN (pe_ix (i_list K rfl) (pv 2) pe_int (fun _ _ => rfl)) pe_non (nomark _))
      (pss_one (ps_ret pe_non))
      pss_nil)
    (pss_cons (ps_asg (pe_call C_count_told.G (hr.mono (by decide)) rfl C_count_told.m C_count_told.kp C_count_told.b .nil passL (pa_cons (pe_ix (i_list K rfl) (pv 2) pe_int (fun _ _ => rfl)) pa_nil)) (pg_tup rfl (pgs_cons (pg_name (i := 4) sc_open_cells.nd rfl (Or.inl rfl)) (pgs_cons (pg_name (i := 5) sc_open_cells.nd rfl (Or.inl rfl)) pgs_nil))))
    (pss_cons (ps_set (i := 6) sc_open_cells.nd rfl (Or.inl rfl) (pe_op op_add (pv 5) (pv 4)))
    (pss_cons (ps_if (pt_cmpR op_ne (pe_un un_neg (pe_op op_fdiv (pe_un un_neg (pv 6)) (pe_glob (v := .int (48)) rfl Z.c_LOAD_SIZE ⟨_, rfl⟩))) (pe_callB (c_len K rfl) (by rfl) Z.z_len (by decide +kernel) (pa_cons (pv 2) pa_nil)) (nomark _))
      (pss_one (ps_raise rfl (takes_of rfl rfl rfl rfl) (pmk_own0 PySem.F.excBase_ValueError Z.x_BadCells.x Z.x_BadCells.g Z.x_BadCells.k (raises_own Z.x_BadCells.b Z.x_BadCells.t) rfl)))
      pss_nil)
    (pss_cons (ps_set (i := 7) sc_open_cells.nd rfl (Or.inl rfl) (pe_lst pa_nil))
    (pss_cons (ps_for (passes_of rfl) rfl (pi_list (pv 2)) (pg_name (i := 8) sc_open_cells.nd rfl (Or.inl rfl))
      (pss_one (ps_expr (pe_bm PySem.F.plainAttrs_list PySem.F.slot_list_extend PySem.F.type_list_extend mt_extend (pv 7) (pa_cons (pe_ifExp (pt_cmpR op_isN (pv 8) pe_non (nomark _)) (pe_op op_rep (pe_lst (pa_cons pe_non pa_nil)) (pe_glob (v := .int (48)) rfl Z.c_LOAD_SIZE ⟨_, rfl⟩)) (pv 8)) pa_nil)))))
    (pss_cons (ps_if (pt_cmpR (o_in K rfl) pe_int (pe_slice (l_list K rfl) (pv 7) (po_some (pv 6)) po_none) rfl)
      (pss_one (ps_raise rfl (takes_of rfl rfl rfl rfl) (pmk_own0 PySem.F.excBase_ValueError Z.x_BadCells.x Z.x_BadCells.g Z.x_BadCells.k (raises_own Z.x_BadCells.b Z.x_BadCells.t) rfl)))
      pss_nil)
    (pss_one (ps_ret (pe_slice (l_list K rfl) (pv 7) (po_some (pv 5)) (po_some (pv 6)))))))))))))), ?_⟩
  obtain ⟨a, bs, g, rfl, hS, hb, hl, g1, g8, q⟩ := h
  have g0 : 0 < g := by omega
  have lds := loads_ok hb (by omega)
  have hcs := countL_short hl
  have htl := toldC_length bs
  have hLn := loads_length bs
  have h0 : 0 < (countL bs.length).length := by
    have := blen_pos (n := bs.length + 1) (by omega)
    rw [countL_length]; omega
  have hL0 : 0 < (loadsC bs).length := by omega
  have hLne : loadsC bs ≠ [] := List.length_pos_iff.mp hL0
  have cm := cells_mem g0 lds
  have hcl := cells_le g0 (loadsC bs)
  have hcp := cells_pos g0 hLne
  have hcm := cells_mod g0 hLne
  walk_at "r"
  refine ⟨sz (by simp), fun lf hlf => ?_⟩
  have h1 : upd H lf (.lst []) lf = some (.lst []) := upd_same
  have e1 : Same H (upd H lf (.lst [])) := (Stp.new (S := S0) (Same.refl _) hlf).same
  generalize upd H lf (.lst []) = H1 at e1 h1 ⊢
  walk_at "r"
  refine ⟨rfl, H, a, protC g bs, (g : Int), (cellsC g (loadsC bs)).length, rfl, e1, hS, flat_bits _ fun c hc => (cm c hc).2, flat_len _ fun c hc => (cm c hc).1, hcp, by omega, by omega, by omega, fun z => hcm (by exact_mod_cast z), fun p1 F1 H2 acc1 st1 hp1 rl1 => ?_⟩
  rw [protC, prot_cells g0 lds] at rl1
  have f1 : F1 lf = none := (st1.fo _ _ h1).trans hlf
  have h2 : H2 lf = some (.lst []) := st1.same _ _ h1
  have hal := RL.len rl1
  walk_at "r"
  refine ⟨rfl, F1, p1, acc1, g + 1, by simp, st1.fh, SqL.of hp1, by omega, by omega, by omega, fun p2 F2 H3 acc2 st2 hp2 lv2 => ?_⟩
  have f2 : F2 lf = none := (st2.fo _ _ h2).trans f1
  have h3 : H3 lf = some (.lst []) := st2.same _ _ h2
  have rl2 : RL F2 acc1 (cellsC g (loadsC bs)) := LV.mono st2.ff rl1
  have hgl : acc2.length = (chunk g (loadsC bs)).length := by
    have e := congrArg List.length (prot_groups g0 (loadsC bs))
    rw [List.length_map] at e
    rw [lv2.len, ← e, chunk_len (by omega), chunk_len (by omega), hal]
  walk_at "r"
  refine ⟨p2, rfl, ⟨_, SqL.of (st2.fh _ _ hp2)⟩, ?_⟩
  refine forL (xs := acc2) (fun i σ H' => ∃ v3 Fi accs, σ = [some (.ref a), some (.int g), some (.ref lf), v3, none, none, none, none, none] ∧ Same F2 Fi ∧ Same Fi H' ∧ Fi lf = none ∧ Same H H' ∧ H' lf = some (.lst accs) ∧ RL Fi accs (((chunk g (loadsC bs)).take i).flatten))
    ⟨_, F2, [], rfl, Same.refl _, st2.fh, f2, e1.trans (st1.same.trans st2.same), h3, .nil⟩ (fun i σ H' _ ⟨_, _, _, _, s, s', _⟩ => s'.seq (SqL.of (s _ _ hp2))) ?_ ?_
  · rintro i x σ H4 hx ⟨v3, Fi, accs, rfl, eF, e4, fn, e04, h4, rl⟩
    obtain ⟨b, l, rfl, hl1, hb1⟩ := LV.get i lv2 hx
    have hi : i < (chunk (g + 1) acc1).length := (List.getElem?_eq_some_iff.mp hl1).1
    have hi2 : i < (chunk g (loadsC bs)).length := by rw [← hgl, lv2.len]; exact hi
    obtain ⟨s, hs⟩ : ∃ s, (chunk g (loadsC bs))[i]? = some s := ⟨_, List.getElem?_eq_getElem hi2⟩
    have hgs : (chunk (g + 1) (cellsC g (loadsC bs)))[i]? = some (grpC s) := by rw [prot_groups g0, List.getElem?_map, hs]; rfl
    have hi3 : i < (chunk (g + 1) (cellsC g (loadsC bs))).length := (List.getElem?_eq_some_iff.mp hgs).1
    rw [chunk_get (by omega) _ i hi] at hl1
    rw [chunk_get (by omega) _ i hi3] at hgs
    have rls : RL F2 l (grpC s) := by
      rw [← Option.some.inj hl1, ← Option.some.inj hgs]
      exact RL.take _ (RL.drop _ rl2)
    have hsm := List.mem_of_getElem? hs
    have ldg := grp_ok g0 lds s hsm
    have hs2 := hs
    rw [chunk_get g0 _ i hi2] at hs2
    have slen : s.length ≤ g := by rw [← Option.some.inj hs2, List.length_take]; omega
    walk_at "r"
    refine ⟨.inl ⟨rfl, _, SqL.of h4⟩, ?_⟩
    walk_at "r"
    refine ⟨rfl, Fi, b, l, s ++ [sumC s], rfl, e4, SqL.of (eF _ _ hb1), LV.mono eF rls, by rw [List.length_append, List.length_singleton]; omega, ldg, fun y F' H5 acc' st' hy rl' => ?_⟩
    rw [List.dropLast_concat] at rl'
    walk_at "r"
    have la := RL.len rl
    have lb := RL.len rl'
    have lp := pre_len g0 (loadsC bs) i
    refine ⟨lf, y, _, _, rfl, rfl, st'.same _ _ h4, st'.fh _ _ hy, Nat.le_trans (m := 10000) (by omega) (by decide), ?_⟩
    have f' : F' lf = none := (st'.fo _ _ h4).trans fn
    refine ⟨_, F', accs ++ acc', rfl, eF.trans st'.ff, (Stp.wr (S := S1 lf) st'.fh rfl f').fh, f', fun b' o' h' => ?_, upd_same, ?_⟩
    · rw [upd_ne (ne_of_none h' hlf)]; exact st'.same _ _ (e04 _ _ h')
    · have := RL.app (LV.mono st'.ff rl) rl'
      rw [List.getElem?_eq_getElem hi2] at hs
      rw [List.take_succ_eq_append_getElem hi2, List.flatten_append, Option.some.inj hs]
      simpa using this
  · rintro σ H4 ⟨v3, Fi, accs, rfl, eF, e4, fn, e04, h4, rl⟩
    rw [hgl, List.take_length, chunk_flatten g0] at rl
    have la := RL.len rl
    obtain ⟨B, hB⟩ := loads_first hl
    have h0a : 0 < accs.length := by omega
    obtain ⟨b0, l0, hb0, hl0, hh0⟩ := RL.get rl 0 (List.getElem?_eq_getElem h0a)
    have ha0 : accs[0]? = some (.ref b0) := by rw [← hb0]; exact List.getElem?_eq_getElem h0a
    rw [hB] at hl0
    obtain rfl := Option.some.inj hl0
    have ld0 := lds _ (List.mem_of_getElem? hB)
    walk_at "r"
    refine s_ixL (SqL.of h4) (at_of (j := 0) (by decide) ha0) ?_
    walk_at "r"
    refine ⟨rfl, ?_⟩
    rw [show decide (V.ref b0 = V.non) = false from decide_eq_false (by simp)]
    walk_at "r"
    refine s_ixL (SqL.of h4) (at_of (j := 0) (by decide) ha0) ?_
    walk_at "r"
    have cr := cntR_code (c := bs.length) (by omega) [] B
    rw [List.nil_append, List.length_nil, Nat.zero_add] at cr
    refine ⟨rfl, b0, _, bs.length, (countL bs.length).length, rfl, SqL.of (e4 _ _ hh0), by rw [ld0.1]; decide, cr, by omega, fun t H5 e5 ht => ?_⟩
    walk_at "r"
    replace h4 := e5 _ _ h4
    refine s_len (SqL.of h4) ?_
    walk_at "r"
    refine ifn (fun _ => ?_) (fun h => absurd (by omega) h)
    walk_at "r"
    refine ⟨sz (by simp), fun tc htc => ?_⟩
    have nlf := ne_of_none h4 htc
    have e6 : Same H5 (upd H5 tc (.lst [])) := (Stp.new (S := S0) (Same.refl _) htc).same
    have h6 : upd H5 tc (.lst []) tc = some (.lst []) := upd_same
    generalize upd H5 tc (.lst []) = H6 at e6 h6 ⊢
    replace h4 := e6 _ _ h4
    have tc0 : H tc = none := (e04.trans e5).free htc
    have tcF : Fi tc = none := (e4.trans e5).free htc
    walk_at "r"
    refine ⟨lf, rfl, ⟨_, SqL.of h4⟩, ?_⟩
    refine forL (xs := accs) (fun i σ H' => ∃ v8, σ = [some (.ref a), some (.int g), some (.ref lf), v3, some (.int bs.length), some (.int (countL bs.length).length), some (.int ((countL bs.length).length + bs.length)), some (.ref tc), v8] ∧ Same Fi H' ∧ Same H H' ∧ H' lf = some (.lst accs) ∧ H' tc = some (.lst (((loadsC bs).take i).flatten.map V.int)))
      ⟨_, rfl, e4.trans (e5.trans e6), e04.trans (e5.trans e6), h4, by rw [h6]; simp⟩ (fun i σ H' _ ⟨_, _, _, _, s, _⟩ => SqL.of s) ?_ ?_
    · rintro i x σ H7 hx ⟨v8, rfl, e7, e07, h7, t7⟩
      obtain ⟨b, l, rfl, hl1, hb1⟩ := RL.get rl i hx
      have ld := lds l (List.mem_of_getElem? hl1)
      have hi : i < (loadsC bs).length := (List.getElem?_eq_some_iff.mp hl1).1
      have fl := flat_len (k := 48) ((loadsC bs).take i) (fun b hb => (lds b (List.mem_of_mem_take hb)).1)
      rw [List.length_take] at fl
      walk_at "r"
      refine ⟨.inl ⟨rfl, _, SqL.of t7⟩, ?_⟩
      walk_at "r"
      refine ⟨rfl, ?_⟩
      rw [show decide (V.ref b = V.non) = false from decide_eq_false (by simp)]
      walk_at "r"
      refine ⟨tc, b, _, _, rfl, rfl, t7, e7 _ _ hb1, Nat.le_trans (m := 10000) (by rw [List.length_map, List.length_map, fl, ld.1]; omega) (by decide), ?_⟩
      refine ⟨_, rfl, (Stp.wr (S := S1 tc) e7 rfl tcF).fh, fun b' o' h' => ?_, ?_, ?_⟩
      · rw [upd_ne (ne_of_none h' tc0)]; exact e07 _ _ h'
      · rw [upd_ne nlf]; exact h7
      · rw [List.getElem?_eq_getElem hi] at hl1
        rw [upd_same, List.take_succ_eq_append_getElem hi, List.flatten_append, Option.some.inj hl1]; simp
    · rintro σ H7 ⟨v8, rfl, e7, e07, h7, t7⟩
      rw [la, List.take_length, loads_flat] at t7
      have ee : (((countL bs.length).length : Nat) : Int) + ((bs.length : Nat) : Int) = (((countL bs.length).length + bs.length : Nat) : Int) := by omega
      rw [ee]
      walk_at "r"
      refine s_slL (SqL.of t7) fun p8 hp8 => ?_
      rw [cutV_from, ← List.map_drop, told_rest]
      have e8 : Same H7 (upd H7 p8 (.lst ((List.replicate ((48 - (toldC bs).length % 48) % 48) (0 : Int)).map V.int))) := (Stp.new (S := S0) (Same.refl _) hp8).same
      refine s_inI (SqL.of upd_same) ?_
      rw [show decide ((1 : Int) ∈ List.replicate ((48 - (toldC bs).length % 48) % 48) (0 : Int)) = false from decide_eq_false (fun z => absurd (List.eq_of_mem_replicate z) (by decide))]
      generalize upd H7 p8 (.lst ((List.replicate ((48 - (toldC bs).length % 48) % 48) (0 : Int)).map V.int)) = H8 at e8 ⊢
      walk_at "r"
      refine s_slL (SqL.of (e8 _ _ t7)) fun p9 hp9 => ?_
      rw [cutV_nat, ← List.map_drop, ← List.map_take, Nat.add_sub_cancel_left, told_cut]
      exact q p9 _ ((e07.trans e8).trans (Stp.new (S := S0) (Same.refl _) hp9).same) ((e07.trans e8).free hp9) upd_same
abbrev s_law_pool : Stmt := topS 37
theorem sc_law_pool : FnScope ["_law_script", "_law_k", "_law_cell", "_law_big", "_law_mixed"] ["_law_script", "_law_k"] (defScope s_law_pool) := ⟨rfl, rfl, rfl, by decide +kernel, rfl, by decide +kernel, by decide +kernel⟩
def Ok_law_pool (P : Program) (w : World) (K : PySem.W.Frag) (mg : Str → Option Value) (base : Heap) : Prop := ∃ fA fd, Fn P w K mg base (L2.CX P w) 1 "_law_pool" s_law_pool fA fd ["_law_script", "_law_k"] (sp_law_pool K mg)
theorem okx_law_pool (Z : Zs K mg) {fA : Addr} {fd : FuncData} (F : Fun K "_law_pool" "_law_pool" s_law_pool fA fd) (m : mg "_law_pool" = some (.ref fA))  : Fn P w K mg base (L2.CX P w) 1 "_law_pool" s_law_pool fA fd ["_law_script", "_law_k"] (sp_law_pool K mg) := by
  refine ⟨F.okX sc_law_pool (fun vs H Q E h => h.1) (fun cdv A outer s H vs Q E hr h => ?_), m, F.kp, F.binds fun _ _ _ _ _ _ us hl => match us, hl with | [_, _], _ => rfl, F⟩
  have hu64 := hr.units
  obtain ⟨hlen, h⟩ := h
  refine ⟨_, (pss_cons (ps_set (i := 2) sc_law_pool.nd rfl (Or.inl rfl) (pe_ifExp (pt_cmpR op_lt (pv 1) (pe_callB (c_len K rfl) (by rfl) Z.z_len (by decide +kernel) (pa_cons (pv 0) pa_nil)) (nomark _)) (pe_callTy c_int1 (by rfl) Z.z_int (by decide +kernel) (pa_cons (pe_ix (i_list K rfl) (pv 0) (pv 1) (fun _ _ => rfl)) pa_nil)) pe_int))
    (pss_cons (ps_set (i := 3) sc_law_pool.nd rfl (Or.inl rfl) (pe_callB (c_max2 rfl) (by rfl) Z.z_max (by decide +kernel) (pa_cons (pv 2) (pa_cons (pe_callTy c_int1 (by rfl) Z.z_int (by decide +kernel) (pa_cons (pe_op op_sub (pe_un un_neg pe_int) (pv 2)) pa_nil)) pa_nil))))
    (pss_cons (ps_set (i := 4) sc_law_pool.nd rfl (Or.inl rfl) (pe_op op_mod (pe_callTy c_int1 (by rfl) Z.z_int (by decide +kernel) (pa_cons (pe_op op_mul (pe_op op_add (pe_op op_add (pe_op op_add (pe_op op_mod (pe_callTy c_int1 (by rfl) Z.z_int (by decide +kernel) (pa_cons (pv 3) pa_nil)) pe_int) (pe_op op_mul (pe_op op_mul pe_int (pv 1)) (pv 1))) (pe_op op_mul pe_int (pv 1))) pe_int) pe_int) pa_nil)) pe_int))
    (pss_one (ps_ret (pe_lst (pa_cons (pe_op op_mul (pv 3) (pe_callTy c_int1 (by rfl) Z.z_int (by decide +kernel) (pa_cons (pe_cmpR op_ge (pv 3) (pe_op op_pow pe_int pe_int) (nomark _)) pa_nil))) (pa_cons (pv 4) pa_nil)))))))), ?_⟩
  obtain ⟨s, ns, k, rfl, hS, hk0, hk, q⟩ := h
  have fin : ∀ (x y : Int), 0 ≤ y → y < 2147483647 → (∀ p, H p = none → Q (.ref p) (upd H p (.lst [.int x, .int y]))) := fun x y y0 y1 p hp =>
    q p _ ⟨(Stp.new (S := S0) (Same.refl H) hp).same, hp, x, y, upd_same, y0, y1⟩
  walk_at "r"
  refine ifd (fun h => ?_) (fun h => ?_)
  · walk_at "r"
    have hl : k.toNat < ns.length := by simp at h; omega
    refine s_ixL hS (at_of (j := k.toNat) (by omega) (get_int hl)) ?_
    walk_at "r"
    exact ⟨sz (by simp), fin _ _ (Int.emod_nonneg _ (by decide)) (Int.emod_lt_of_pos _ (by decide))⟩
  · walk_at "r"
    exact ⟨sz (by simp), fin _ _ (Int.emod_nonneg _ (by decide)) (Int.emod_lt_of_pos _ (by decide))⟩
abbrev s_law_take : Stmt := topS 38
theorem sc_law_take : FnScope ["_law_source", "_law_top", "_law_drawn"] ["_law_source", "_law_top"] (defScope s_law_take) := ⟨rfl, rfl, rfl, by decide +kernel, rfl, by decide +kernel, by decide +kernel⟩
def Ok_law_take (P : Program) (w : World) (K : PySem.W.Frag) (mg : Str → Option Value) (base : Heap) : Prop := ∃ fA fd, Fn P w K mg base (L2.CX P w) 1 "_law_take" s_law_take fA fd ["_law_source", "_law_top"] (sp_law_take K mg)
theorem okx_law_take (Z : Zs K mg) {fA : Addr} {fd : FuncData} (F : Fun K "_law_take" "_law_take" s_law_take fA fd) (m : mg "_law_take" = some (.ref fA))  : Fn P w K mg base (L2.CX P w) 1 "_law_take" s_law_take fA fd ["_law_source", "_law_top"] (sp_law_take K mg) := by
  refine ⟨F.okX sc_law_take (fun vs H Q E h => h.1) (fun cdv A outer s H vs Q E hr h => ?_), m, F.kp, F.binds fun _ _ _ _ _ _ us hl => match us, hl with | [_, _], _ => rfl, F⟩
  have hu64 := hr.units
  obtain ⟨hlen, h⟩ := h
  refine ⟨_, (pss_cons (ps_if (pt_cmpR op_gt (pe_ix (i_list K rfl) (pv 0) pe_int (fun _ _ => rfl)) pe_int (nomark _))
      (pss_cons (ps_set (i := 2) sc_law_take.nd rfl (Or.inl rfl) (pe_op op_mod (pe_callTy c_int1 (by rfl) Z.z_int (by decide +kernel) (pa_cons (pe_ix (i_list K rfl) (pv 0) pe_int (fun _ _ => rfl)) pa_nil)) (pv 1)))
    (pss_cons (ps_asg (pe_op op_fdiv (pe_ix (i_list K rfl) (pv 0) pe_int (fun _ _ => rfl)) (pv 1)) (pg_sub (pv 0) pe_int set_list))
    (pss_one (ps_ret (pv 2)))))
      pss_nil)
    (pss_cons (ps_asg (pe_op op_mod (pe_callTy c_int1 (by rfl) Z.z_int (by decide +kernel) (pa_cons (pe_op op_add (pe_op op_mul (pe_ix (i_list K rfl) (pv 0) pe_int (fun _ _ => rfl)) pe_int) pe_int) pa_nil)) pe_int) (pg_sub (pv 0) pe_int set_list))
    (pss_one (ps_ret (pe_op op_mod (pe_callTy c_int1 (by rfl) Z.z_int (by decide +kernel) (pa_cons (pe_op op_fdiv (pe_op op_mod (pe_callTy c_int1 (by rfl) Z.z_int (by decide +kernel) (pa_cons (pe_op op_mul (pe_ix (i_list K rfl) (pv 0) pe_int (fun _ _ => rfl)) (pe_ix (i_list K rfl) (pv 0) pe_int (fun _ _ => rfl))) pa_nil)) pe_int) pe_int) pa_nil)) (pv 1)))))), ?_⟩
  obtain ⟨F0, p, t, rfl, hs, ht, ht2, q⟩ := h
  obtain ⟨hs0, hp0, a, b, hp, hb0, hb1⟩ := id hs
  have st : ∀ o, Stp (S1 p) F0 H F0 (upd H p o) := fun o => Stp.wr hs0 rfl hp0
  walk_at "r"
  refine ifd (fun h => ?_) (fun h => ?_)
  · walk_at "r"
    exact q _ _ (hs.wr hb0 hb1) (st _) (Int.emod_nonneg _ (by omega)) (Int.emod_lt_of_pos _ ht)
  · walk_at "r"
    exact q _ _ (hs.wr (Int.emod_nonneg _ (by decide)) (Int.emod_lt_of_pos _ (by decide))) (st _) (Int.emod_nonneg _ (by omega)) (Int.emod_lt_of_pos _ ht)
abbrev s_law_one : Stmt := topS 39
theorem sc_law_one : FnScope ["_law_source", "_law_things"] ["_law_source", "_law_things"] (defScope s_law_one) := ⟨rfl, rfl, rfl, by decide +kernel, rfl, by decide +kernel, by decide +kernel⟩
def Ok_law_one (P : Program) (w : World) (K : PySem.W.Frag) (mg : Str → Option Value) (base : Heap) : Prop := ∃ fA fd, Fn P w K mg base (L2.CX P w) 2 "_law_one" s_law_one fA fd ["_law_source", "_law_things"] (sp_law_one K mg)
theorem okx_law_one (Z : Zs K mg) {fA : Addr} {fd : FuncData} (F : Fun K "_law_one" "_law_one" s_law_one fA fd) (m : mg "_law_one" = some (.ref fA)) (C_law_take : Ok_law_take P w K mg base) : Fn P w K mg base (L2.CX P w) 2 "_law_one" s_law_one fA fd ["_law_source", "_law_things"] (sp_law_one K mg) := by
  obtain ⟨_, _, C_law_take⟩ := C_law_take
  refine ⟨F.okX sc_law_one (fun vs H Q E h => h.1) (fun cdv A outer s H vs Q E hr h => ?_), m, F.kp, F.binds fun _ _ _ _ _ _ us hl => match us, hl with | [_, _], _ => rfl, F⟩
  have hu64 := hr.units
  obtain ⟨hlen, h⟩ := h
  refine ⟨_, (pss_one (ps_ret (pe_ix (i_list K rfl) (pv 1) (pe_call C_law_take.G (hr.mono (by decide)) rfl C_law_take.m C_law_take.kp C_law_take.b .nil passL (pa_cons (pv 0) (pa_cons (pe_callB (c_len K rfl) (by rfl) Z.z_len (by decide +kernel) (pa_cons (pv 1) pa_nil)) pa_nil))) (fun _ _ => rfl)))), ?_⟩
  obtain ⟨F0, p, a, ns, rfl, hs, hn, hn0, hn1, q⟩ := h
  have ha := hs.1.seq hn
  walk_at "r"
  refine ⟨rfl, F0, p, _, rfl, hs, ?_, ?_, fun r H1 s1 st1 r0 r1 => ?_⟩
  · simp; omega
  · simp; omega
  walk_at "r"
  have hl : r.toNat < ns.length := by simp at r1; omega
  exact s_ixL (s1.1.seq hn) (at_of (j := r.toNat) (by omega) (get_int hl)) (q _ _ s1 st1 (List.getElem_mem hl))
abbrev s_law_count : Stmt := topS 40
theorem sc_law_count : FnScope ["_law_number", "_law_figures", "_law_rest"] ["_law_number"] (defScope s_law_count) := ⟨rfl, rfl, rfl, by decide +kernel, rfl, by decide +kernel, by decide +kernel⟩
def Ok_law_count (P : Program) (w : World) (K : PySem.W.Frag) (mg : Str → Option Value) (base : Heap) : Prop := ∃ fA fd, Fn P w K mg base (L2.CX P w) 1 "_law_count" s_law_count fA fd ["_law_number"] (sp_law_count K mg)
theorem okx_law_count (Z : Zs K mg) {fA : Addr} {fd : FuncData} (F : Fun K "_law_count" "_law_count" s_law_count fA fd) (m : mg "_law_count" = some (.ref fA))  : Fn P w K mg base (L2.CX P w) 1 "_law_count" s_law_count fA fd ["_law_number"] (sp_law_count K mg) := by
  refine ⟨F.okX sc_law_count (fun vs H Q E h => h.1) (fun cdv A outer s H vs Q E hr h => ?_), m, F.kp, F.binds fun _ _ _ _ _ _ us hl => match us, hl with | [_], _ => rfl, F⟩
  have hu64 := hr.units
  obtain ⟨hlen, h⟩ := h
  refine ⟨_, (pss_cons (ps_par (i := 1) (j := 2) (by rfl) sc_law_count.nd rfl rfl (by decide) rfl rfl (pa_cons (pe_lst pa_nil) (pa_cons (pe_op op_add (pv 0) pe_int) pa_nil)) (by rfl))
    (pss_cons (ps_while (passes_of rfl) (pt_cmpR op_gt (pv 2) pe_int (nomark _))
      (pss_cons (ps_set (i := 1) sc_law_count.nd rfl (Or.inl rfl) (pe_op op_cat (pe_lst (pa_cons (pe_op op_mod (pv 2) pe_int) pa_nil)) (pv 1)))
    (pss_one (ps_set (i := 2) sc_law_count.nd rfl (Or.inl rfl) (pe_op op_fdiv (pv 2) pe_int)))))
    (pss_one (ps_ret (pe_op op_cat (pe_op op_rep (pe_lst (pa_cons pe_int pa_nil)) (pe_op op_sub (pe_callB (c_len K rfl) (by rfl) Z.z_len (by decide +kernel) (pa_cons (pv 1) pa_nil)) pe_int)) (pv 1)))))), ?_⟩
  obtain ⟨n, rfl, hn, q⟩ := h
  have b3 : blen (n + 1) ≤ 41 := blen_le (by omega)
  have b1 := blen_pos (n := n + 1) (by omega)
  walk_at "r"
  refine ⟨sz (by simp), fun a0 ha0 => ?_⟩
  walk_at "r"
  refine whileM (mon_test (mon_op mon_I0 mon_var mon_c))
    (fun σ H' => ∃ (j : Nat) (a : Addr), σ = [some (.int n), some (.ref a), some (.int (((n + 1) / 2 ^ j : Nat) : Int))] ∧ Same H H' ∧ H a = none ∧ H' a = some (.lst ((fixL j (n + 1)).map V.int)) ∧ j ≤ blen (n + 1)) (fun σ _ => match σ with
      | [_, _, some (.int p)] => p.toNat
      | _ => 0) ⟨0, a0, by simp; rfl, (Stp.new (S := S0) (Same.refl H) ha0).same, ha0, upd_same, Nat.zero_le _⟩ ?_
  rintro σ H1 ⟨j, a, rfl, e1, a0', ha, hj⟩
  walk_at "r"
  refine ifd (fun h => ?_) (fun h => ?_)
  · have h' : 0 < (n + 1) / 2 ^ j := Int.ofNat_lt.mp h
    have hlt : j < blen (n + 1) := by
      rw [lt_blen]
      exact (Nat.div_pos_iff.mp h').2
    walk_at "r"
    refine ⟨sz (by simp), fun b hb0 => ?_⟩
    have s2 := Stp.new (S := S0) (o := .lst [.int ((((n + 1) / 2 ^ j : Nat) : Int) % 2)]) (Same.refl H1) hb0
    walk_at "r"
    refine ⟨_, _, _, _, rfl, rfl, upd_same, s2.same _ _ ha, sz (by simp [fixL_len]; omega), fun c hc => ?_⟩
    have s3 := Stp.new (S := S0) (o := .lst ([.int ((((n + 1) / 2 ^ j : Nat) : Int) % 2)] ++ (fixL j (n + 1)).map V.int)) s2.fh hc
    walk_at "r"
    refine ⟨⟨j + 1, c, ?_, e1.trans (s2.trans s3).same, (e1.trans s2.same).free hc, ?_, by omega⟩, ?_⟩
    · rw [show (((n + 1) / 2 ^ (j + 1) : Nat) : Int) = (((n + 1) / 2 ^ j : Nat) : Int) / 2 by rw [Nat.pow_succ, ← Nat.div_div_eq_div_mul]; simp]
      rfl
    · rw [upd_same, fixL_cons]; simp
    · show ((((n + 1) / 2 ^ j : Nat) : Int) / 2).toNat < (((n + 1) / 2 ^ j : Nat) : Int).toNat
      generalize (n + 1) / 2 ^ j = y at h'
      omega
  · have h' : (n + 1) / 2 ^ j = 0 := Nat.eq_zero_of_not_pos fun z => h (Int.ofNat_lt.mpr z)
    have e : j = blen (n + 1) := by
      refine Nat.le_antisymm hj (Nat.le_of_not_lt fun z => ?_)
      rw [lt_blen] at z
      have := Nat.div_pos z (Nat.two_pow_pos j)
      omega
    subst e
    walk_at "r"
    refine ⟨sz (by simp), fun b hb => ?_⟩
    have s2 := Stp.new (S := S0) (o := .lst [.int 0]) (Same.refl H1) hb
    walk_at "r"
    refine s_len (SqL.of (s2.same _ _ ha)) ?_
    walk_at "r"
    rw [List.length_map, fixL_len]
    refine s_rep upd_same (by omega) (by omega) fun b2 hb2 => ?_
    have s3 := Stp.new (S := S0) (o := .lst (List.replicate ((blen (n + 1) : Int) - 1).toNat (V.int 0))) s2.fh hb2
    walk_at "r"
    refine ⟨_, _, _, _, rfl, rfl, upd_same, (s2.trans s3).same _ _ ha, sz (by simp [fixL_len]; omega), fun c hc => ?_⟩
    refine q c _ ((e1.trans (s2.trans s3).same).trans (Stp.new (S := S0) (Same.refl _) hc).same) ((e1.trans (s2.trans s3).same).free hc) ?_
    rw [upd_same]
    unfold countL
    rw [List.map_append, List.map_replicate, show ((blen (n + 1) : Int) - 1).toNat = blen (n + 1) - 1 by omega]
abbrev s_law_check : Stmt := topS 41
theorem sc_law_check : FnScope ["_law_load", "_law_number", "_law_bit", "_law_place"] ["_law_load"] (defScope s_law_check) := ⟨rfl, rfl, rfl, by decide +kernel, rfl, by decide +kernel, by decide +kernel⟩
def Ok_law_check (P : Program) (w : World) (K : PySem.W.Frag) (mg : Str → Option Value) (base : Heap) : Prop := ∃ fA fd, Fn P w K mg base (L2.CX P w) 1 "_law_check" s_law_check fA fd ["_law_load"] (sp_law_check K mg)
theorem okx_law_check (Z : Zs K mg) {fA : Addr} {fd : FuncData} (F : Fun K "_law_check" "_law_check" s_law_check fA fd) (m : mg "_law_check" = some (.ref fA))  : Fn P w K mg base (L2.CX P w) 1 "_law_check" s_law_check fA fd ["_law_load"] (sp_law_check K mg) := by
  refine ⟨F.okX sc_law_check (fun vs H Q E h => h.1) (fun cdv A outer s H vs Q E hr h => ?_), m, F.kp, F.binds fun _ _ _ _ _ _ us hl => match us, hl with | [_], _ => rfl, F⟩
  have hu64 := hr.units
  obtain ⟨hlen, h⟩ := h
  refine ⟨_, (pss_cons (ps_set (i := 1) sc_law_check.nd rfl (Or.inr rfl) pe_int)
    (pss_cons (ps_for (passes_of rfl) rfl (pi_list (pv 0)) (pg_name (i := 2) sc_law_check.nd rfl (Or.inl rfl))
      (pss_one (ps_set (i := 1) sc_law_check.nd rfl (Or.inr rfl) (pe_op op_add (pe_op op_mul pe_int (pv 1)) (pv 2)))))
    (pss_cons (ps_set (i := 1) sc_law_check.nd rfl (Or.inr rfl) (pe_op op_mul pe_int (pv 1)))
    (pss_cons (ps_for (passes_of rfl) rfl (pi_range3 rfl Z.z_range (pa_cons (pe_op op_add (pe_callB (c_len K rfl) (by rfl) Z.z_len (by decide +kernel) (pa_cons (pv 0) pa_nil)) pe_int) (pa_cons pe_int (pa_cons (pe_un un_neg pe_int) pa_nil)))) (pg_name (i := 3) sc_law_check.nd rfl (Or.inl rfl))
      (pss_one (ps_if (pt_cmpR op_eq (pe_op o_and1 (pe_op op_shr (pv 1) (pv 3)) pe_int) pe_int (nomark _))
      (pss_one (ps_set (i := 1) sc_law_check.nd rfl (Or.inr rfl) (pe_op op_xor (pv 1) (pe_op op_shl pe_int (pe_op op_sub (pv 3) pe_int)))))
      pss_nil)))
    (pss_one (ps_ret (pe_lc (own := [("_law_place", 3)]) (g := gName 3) (tt := tYes) (by rfl) sc_law_check.nd (pi_range3 rfl Z.z_range (pa_cons pe_int (pa_cons (pe_un un_neg pe_int) (pa_cons (pe_un un_neg pe_int) pa_nil)))) (blkOk_by (own := [("_law_place", 3)]) (N := ["_law_load", "_law_number", "_law_bit", "_law_place"]) (sc := defScope s_law_check) (by decide +kernel)) (fun _ _ _ _ _ => (pg_name (i := 3) sc_law_check.nd rfl (Or.inl rfl))) (fun _ _ _ _ _ => pts_nil) (fun _ _ _ _ _ => (pe_op o_and1 (pe_op op_shr (pv 1) (pv 3)) pe_int))))))))), ?_⟩
  obtain ⟨a, l, rfl, hS, hl, hb, q⟩ := h
  walk_at "r"
  refine ⟨a, rfl, ⟨_, hS⟩, ?_⟩
  refine forL (xs := l.map V.int) (fun i σ H' => ∃ v, σ = [some (.ref a), some (.int (numL (l.take i))), v, none] ∧ H = H') ⟨_, rfl, rfl⟩ (fun i σ H' _ ⟨_, _, e⟩ => e ▸ hS) ?_ ?_
  · rintro i x σ H' hx ⟨v, rfl, rfl⟩
    rw [List.getElem?_map] at hx
    cases z : l[i]? with
    | none => rw [z] at hx; cases hx
    | some b =>
      rw [z] at hx
      cases hx
      have hi : i < l.length := (List.getElem?_eq_some_iff.mp z).1
      have et : l.take (i + 1) = l.take i ++ [b] := by
        rw [List.take_succ_eq_append_getElem hi]
        rw [List.getElem?_eq_getElem hi] at z
        rw [Option.some.inj z]
      have hv : 2 * numL (l.take i) + b = numL (l.take (i + 1)) := by rw [et, numL_snoc]
      walk_at "r"
      rw [hv]
      exact ⟨_, rfl, rfl⟩
  · rintro σ H' ⟨v, rfl, rfl⟩
    rw [List.length_map, List.take_length]
    walk_at "r"
    have e0 : 256 * numL l = ((DN (chk (l.take 0)) (l.drop 0) : Nat) : Int) := by
      rw [List.take_zero, List.drop_zero, numN_eq l hb]
      show _ = ((0 * 2 ^ l.length ^^^ 256 * numN l : Nat) : Int)
      rw [Nat.zero_mul, Nat.zero_xor]; simp
    rw [e0]
    refine ⟨_, _, _, 48, rfl, ?_, ?_⟩
    · have := RgC.neg (i := ((l.map V.int).length : Int) + 7) (j := 7) (by rw [List.length_map, hl]; decide) (by rw [List.length_map, hl]; decide) (by decide) (by decide)
      rw [show ((((l.map V.int).length : Nat) : Int) + 7 - 7).toNat = 48 by rw [List.length_map, hl]; decide] at this
      exact this
    refine forW walk_rangeC (fun i σ H' => ∃ v3, σ = [some (.ref a), some (.int ((DN (chk (l.take i)) (l.drop i) : Nat) : Int)), v, v3] ∧ H = H') ⟨_, rfl, rfl⟩ (fun _ _ _ _ _ => trivial) ?_ ?_
    · rintro i x σ H1 H2 hi ⟨v3, rfl, rfl⟩ ⟨rfl, rfl⟩
      have hil : i < l.length := by omega
      have ed : l.drop i = l[i] :: l.drop (i + 1) := List.drop_eq_getElem_cons hil
      have et : chk (l.take (i + 1)) = stp (chk (l.take i)) (l[i]).toNat := by rw [List.take_succ_eq_append_getElem hil]; exact cf_snoc _ _ _
      have hbi := hb l[i] (List.getElem_mem hil)
      have hbr : isBits (l.drop (i + 1)) := fun x hx => hb x (List.mem_of_mem_drop hx)
      have hln : (l.drop (i + 1)).length + 8 = 55 - i := by rw [List.length_drop]; omega
      have kb := DN_bit (chk_lt (l.take i)) hbi hbr
      have ks := DN_step (chk_lt (l.take i)) hbi hbr
      have ex : (((l.map V.int).length : Nat) : Int) + 7 + (i : Int) * -1 = ((55 - i : Nat) : Int) := by rw [List.length_map, hl]; omega
      rw [hln] at kb
      rw [← ed] at kb ks
      rw [← et] at ks
      dsimp only
      rw [ex]
      walk_at "r"
      refine ⟨rfl, ?_⟩
      walk_at "r"
      have ev : ((DN (chk (l.take i)) (l.drop i) : Nat) : Int) / 2 ^ (((55 - i : Nat) : Int)).toNat % 2 = ((DN (chk (l.take i)) (l.drop i) / 2 ^ (55 - i) % 2 : Nat) : Int) := by rw [Int.toNat_natCast]; simp
      rw [ev]
      refine ifd (fun h => ?_) (fun h => ?_)
      · have h' := kb.mp (by omega)
        walk_at "r"
        have e8 : ((55 - i : Nat) : Int) - 8 = ((47 - i : Nat) : Int) := by omega
        rw [e8]
        have exx : Builtin.bitXor ((DN (chk (l.take i)) (l.drop i) : Nat) : Int) (263 * 2 ^ (((47 - i : Nat) : Int)).toNat) = ((DN (chk (l.take (i + 1))) (l.drop (i + 1)) : Nat) : Int) := by
          rw [Bits.bitXor_pp (by omega) (Int.mul_nonneg (by decide) (Int.pow_nonneg (by decide))), Int.toNat_natCast, Int.toNat_natCast]
          congr 1
          rw [ks, if_pos h', List.length_drop, hl, show 48 - (i + 1) = 47 - i by omega]
          have : ((263 : Int) * 2 ^ (47 - i)).toNat = 263 * 2 ^ (47 - i) := by
            rw [show ((263 : Int) * 2 ^ (47 - i)) = ((263 * 2 ^ (47 - i) : Nat) : Int) by simp, Int.toNat_natCast]
          rw [this, Nat.xor_assoc, Nat.xor_self, Nat.xor_zero]
        rw [exx]
        exact ⟨_, rfl, rfl⟩
      · have h' := fun z => h (by have := kb.mpr z; omega)
        walk_at "r"
        rw [if_neg h', Nat.zero_mul, Nat.xor_zero] at ks
        rw [ks]
        exact ⟨_, rfl, rfl⟩
    · rintro σ H1 ⟨v3, rfl, rfl⟩
      rw [List.take_of_length_le (by omega), List.drop_of_length_le (by omega)]
      have ec : DN (chk l) [] = chk l := by simp [DN, numN]
      rw [ec]
      walk_at "r"
      refine ⟨_, _, _, 8, rfl, RgC.neg (i := 7) (j := -1) (by decide) (by decide) (by decide) (by decide), ?_⟩
      refine lcW walk_rangeC S0 (Same.refl H) (fun _ z => z.elim) (fun _ _ _ => trivial) (fun i acc F1 H1 => acc = ((fixL 8 (chk l)).map V.int).take i) (fun _ _ _ _ _ _ _ _ _ r => r) rfl ?_ ?_
      · rintro i x acc d F1 H1 H2 hi ⟨rfl, rfl⟩ hd nS st f0 e hl2 rr
        have ex : (7 : Int) + (i : Int) * -1 = ((7 - i : Nat) : Int) := by omega
        dsimp only
        rw [ex]
        walk_at "r"
        refine ⟨rfl, ?_⟩
        refine lc_end hd nS st f0 e hl2 (by omega) (.rfl' st.fh) ?_
        have ha := fixL_at 8 (chk l) i hi
        have h3 : i < ((fixL 8 (chk l)).map V.int).length := by rw [List.length_map, fixL_len]; exact hi
        rw [rr, List.take_succ_eq_append_getElem h3]
        congr 2
        have h4 : i < (fixL 8 (chk l)).length := by rw [fixL_len]; exact hi
        rw [List.getElem?_eq_getElem h4] at ha
        rw [List.getElem_map, Option.some.inj ha, Int.toNat_natCast]
        simp
      · intro d acc F0 F1 H1 st hd f0 ef st1 hl2 rr
        refine q d H1 st.same hd ?_
        rw [ef] at st1
        rw [st1.fh _ _ upd_same, rr, List.take_of_length_le (by rw [List.length_map, fixL_len]; exact Nat.le_refl _)]
abbrev s_law_sum : Stmt := topS 42
theorem sc_law_sum : FnScope ["_law_loads_here", "_law_at", "_law_load"] ["_law_loads_here"] (defScope s_law_sum) := ⟨rfl, rfl, rfl, by decide +kernel, rfl, by decide +kernel, by decide +kernel⟩
def Ok_law_sum (P : Program) (w : World) (K : PySem.W.Frag) (mg : Str → Option Value) (base : Heap) : Prop := ∃ fA fd, Fn P w K mg base (L2.CX P w) 1 "_law_sum" s_law_sum fA fd ["_law_loads_here"] (sp_law_sum K mg)
theorem okx_law_sum (Z : Zs K mg) {fA : Addr} {fd : FuncData} (F : Fun K "_law_sum" "_law_sum" s_law_sum fA fd) (m : mg "_law_sum" = some (.ref fA))  : Fn P w K mg base (L2.CX P w) 1 "_law_sum" s_law_sum fA fd ["_law_loads_here"] (sp_law_sum K mg) := by
  refine ⟨F.okX sc_law_sum (fun vs H Q E h => h.1) (fun cdv A outer s H vs Q E hr h => ?_), m, F.kp, F.binds fun _ _ _ _ _ _ us hl => match us, hl with | [_], _ => rfl, F⟩
  have hu64 := hr.units
  obtain ⟨hlen, h⟩ := h
  refine ⟨_, (pss_one (ps_ret (pe_lc (own := [("_law_at", 1)]) (g := gName 1) (tt := tYes) (by rfl) sc_law_sum.nd (pi_range1 rfl Z.z_range (pa_cons pe_int pa_nil)) (blkOk_by (own := [("_law_at", 1)]) (N := ["_law_loads_here", "_law_at", "_law_load"]) (sc := defScope s_law_sum) (by decide +kernel)) (fun _ _ _ _ _ => (pg_name (i := 1) sc_law_sum.nd rfl (Or.inr rfl))) (fun _ _ _ _ _ => pts_nil) (fun _ _ _ _ _ => (pe_op op_mod (pe_callB (c_sum K rfl rfl) (by rfl) Z.z_sum (by decide +kernel) (pa_cons (pe_lc (wi := iList K _) (own := [("_law_load", 2)]) (g := gName 2) (tt := tYes) (by rfl) sc_law_sum.nd (pi_list (pv 0)) (blkOk_by (own := [("_law_load", 2)]) (N := ["_law_loads_here", "_law_at", "_law_load"]) (sc := _) (by rfl)) (fun _ _ _ _ _ => (pg_name (i := 2) sc_law_sum.nd rfl (Or.inl rfl))) (fun _ _ _ _ _ => pts_nil) (fun _ _ _ _ _ => (pe_ix (i_list K rfl) (pv 2) (pv 1) (fun _ _ => rfl)))) pa_nil)) pe_int))))), ?_⟩
  obtain ⟨a, us, ls, rfl, hS, hR, hn, hL, q⟩ := h
  have hul := RL.len hR
  walk_at "r"
  refine ⟨_, rfl, by decide, by decide, ?_⟩
  refine lcW walk_range S0 (Same.refl H) (fun _ z => z.elim) (fun _ _ _ => trivial) (fun i acc F1 H1 => acc = ((sumC ls).map V.int).take i) (fun _ _ _ _ _ _ _ _ _ r => r) rfl ?_ ?_
  · rintro j x acc d F1 H1 H2 hj ⟨rfl, rfl⟩ hd nS st f0 e hl rr
    have hj : j < 48 := hj
    walk_at "r"
    refine ⟨a, rfl, ⟨_, st.same.seq hS⟩, ?_⟩
    refine lcW (walk_list (xs := us)) S0 st.fh (fun _ z => z.elim) (fun F2 H2 s2 => (st.same.trans s2.same).seq hS) (fun i acc F2 H2 => acc = ((ls.map fun l => l.getD j 0).map V.int).take i) (fun _ _ _ _ _ _ _ _ _ r => r) rfl ?_ ?_
    · rintro i x acc2 d2 F2 H2 H3 hi ⟨rfl, hx⟩ hd2 nS2 st2 f02 e2 hl2 rr2
      obtain ⟨b, l, rfl, hl1, hb1⟩ := RL.get hR i hx
      have hil : i < ls.length := (List.getElem?_eq_some_iff.mp hl1).1
      have l48 := (hL l (List.mem_of_getElem? hl1)).1
      have hjl : j < l.length := by omega
      walk_at "r"
      refine s_ixL (SqL.of ((st.same.trans st2.same) _ _ hb1)) (at_of (j := j) (by omega) (get_int hjl)) ?_
      refine lc_end hd2 nS2 st2 f02 e2 hl2 (by omega) (.rfl' st2.fh) ?_
      have h3 : i < ((ls.map fun l => l.getD j 0).map V.int).length := by simp; exact hil
      rw [rr2, List.take_succ_eq_append_getElem h3]
      rw [List.getElem?_eq_getElem hil] at hl1
      congr 2
      rw [List.getElem_map, List.getElem_map, Option.some.inj hl1, List.getD_eq_getElem?_getD, List.getElem?_eq_getElem hjl]
      rfl
    · intro d2 acc2 F2 F3 H3 st2 hd2 f02 ef2 st3 hl2 rr2
      rw [List.take_of_length_le (by simp [hul])] at rr2
      have hd3 : H3 d2 = some (.lst ((ls.map fun l => l.getD j 0).map V.int)) := by rw [← rr2]; rw [ef2] at st3; exact st3.fh _ _ upd_same
      walk_at "r"
      refine ⟨d2, _, rfl, SqL.of hd3, ?_⟩
      walk_at "r"
      refine lc_end hd nS st f0 e hl (by omega) st3 ?_
      have h4 : j < ((sumC ls).map V.int).length := by rw [List.length_map, sumC_len]; exact hj
      rw [rr, List.take_succ_eq_append_getElem h4]
      congr 2
      simp [sumC]
  · intro d acc F0 F1 H1 st hd f0 ef st1 hl rr
    refine q d H1 st.same hd ?_
    rw [ef] at st1
    rw [st1.fh _ _ upd_same, rr, List.take_of_length_le (by rw [List.length_map, sumC_len]; exact Nat.le_refl _)]
abbrev s_law_cells : Stmt := topS 43
theorem sc_law_cells : FnScope ["_law_loads_here", "_law_group", "_law_found", "_law_begin", "_law_some", "_law_load"] ["_law_loads_here", "_law_group"] (defScope s_law_cells) := ⟨rfl, rfl, rfl, by decide +kernel, rfl, by decide +kernel, by decide +kernel⟩
def Ok_law_cells (P : Program) (w : World) (K : PySem.W.Frag) (mg : Str → Option Value) (base : Heap) : Prop := ∃ fA fd, Fn P w K mg base (L2.CX P w) 2 "_law_cells" s_law_cells fA fd ["_law_loads_here", "_law_group"] (sp_law_cells K mg)
theorem okx_law_cells (Z : Zs K mg) {fA : Addr} {fd : FuncData} (F : Fun K "_law_cells" "_law_cells" s_law_cells fA fd) (m : mg "_law_cells" = some (.ref fA)) (C_law_sum : Ok_law_sum P w K mg base) (C_law_check : Ok_law_check P w K mg base) : Fn P w K mg base (L2.CX P w) 2 "_law_cells" s_law_cells fA fd ["_law_loads_here", "_law_group"] (sp_law_cells K mg) := by
  obtain ⟨_, _, C_law_sum⟩ := C_law_sum
  obtain ⟨_, _, C_law_check⟩ := C_law_check
  refine ⟨F.okX sc_law_cells (fun vs H Q E h => h.1) (fun cdv A outer s H vs Q E hr h => ?_), m, F.kp, F.binds fun _ _ _ _ _ _ us hl => match us, hl with | [_, _], _ => rfl, F⟩
  have hu64 := hr.units
  obtain ⟨hlen, h⟩ := h
  refine ⟨_, (pss_cons (ps_set (i := 2) sc_law_cells.nd rfl (Or.inl rfl) (pe_lst pa_nil))
    (pss_cons (ps_for (passes_of rfl) rfl (pi_range3 rfl Z.z_range (pa_cons pe_int (pa_cons (pe_callB (c_len K rfl) (by rfl) Z.z_len (by decide +kernel) (pa_cons (pv 0) pa_nil)) (pa_cons (pv 1) pa_nil)))) (pg_name (i := 3) sc_law_cells.nd rfl (Or.inl rfl))
      (pss_cons (ps_set (i := 4) sc_law_cells.nd rfl (Or.inl rfl) (pe_slice (l_list K rfl) (pv 0) (po_some (pv 3)) (po_some (pe_op op_add (pv 3) (pv 1)))))
    (pss_one (ps_for (passes_of rfl) rfl (pi_list (pe_op op_cat (pv 4) (pe_lst (pa_cons (pe_call C_law_sum.G (hr.mono (by decide)) rfl C_law_sum.m C_law_sum.kp C_law_sum.b .nil passL (pa_cons (pv 4) pa_nil)) pa_nil)))) (pg_name (i := 5) sc_law_cells.nd rfl (Or.inl rfl))
      (pss_one (ps_expr (pe_bm PySem.F.plainAttrs_list PySem.F.slot_list_append PySem.F.type_list_append mt_append (pv 2) (pa_cons (pe_op op_cat (pv 5) (pe_call C_law_check.G (hr.mono (by decide)) rfl C_law_check.m C_law_check.kp C_law_check.b .nil passL (pa_cons (pv 5) pa_nil))) pa_nil))))))))
    (pss_one (ps_ret (pv 2))))), ?_⟩
  obtain ⟨F, a, us, ls, g, rfl, hF, ha, hR, hn, hL, g1, g8, q⟩ := h
  have g0 : 0 < g := by omega
  have hul := RL.len hR
  walk_at "r"
  refine ⟨sz (by simp), fun f hf => ?_⟩
  have c1 := Stp.cell (S := S0) (o := .lst []) hF hf
  have h1 : upd H f (.lst []) f = some (.lst []) := upd_same
  have f0 : F f = none := hF.free hf
  generalize upd H f (.lst []) = H1 at c1 h1 ⊢
  walk_at "r"
  refine s_len (SqL.of (c1.fh _ _ ha)) ?_
  walk_at "r"
  have hcl := chunk_len g0 ls
  have hcb : (chunk g ls).length ≤ 1010 := by
    rw [hcl]; exact Nat.le_trans (Nat.div_le_self _ _) (by omega)
  have en : (((us.length : Nat) : Int) + (g : Int) - 1) / (g : Int) = (((chunk g ls).length : Nat) : Int) := by
    rw [hcl, Int.natCast_ediv]
    congr 1
    omega
  refine ⟨_, _, _, (chunk g ls).length, rfl, ?_, ?_⟩
  · have := rgc_up (L := ((us.length : Nat) : Int)) (k := (g : Int)) (by omega) (by omega) (by omega) (by omega)
    rw [en, Int.toNat_natCast] at this
    exact this
  refine forW walk_rangeC (fun i σ H' => ∃ v3 v4 v5 Fi accs, σ = [some (.ref a), some (.int g), some (.ref f), v3, v4, v5] ∧ Stp S0 F H Fi H' ∧ Fi f = none ∧ H' f = some (.lst accs) ∧ RL Fi accs (((chunk g ls).take i).map grpC).flatten ∧ accs.length ≤ 9 * i)
    ⟨_, _, _, F, [], rfl, c1, f0, h1, .nil, by simp⟩ (fun _ _ _ _ _ => trivial) ?_ ?_
  · rintro i x σ H0' H2 hi ⟨v3, v4, v5, Fi, accs, rfl, st, fi, h2, rl, al⟩ ⟨rfl, rfl⟩
    have ei : (0 : Int) + (i : Int) * (g : Int) = ((i * g : Nat) : Int) := by simp
    have ej : ((i * g : Nat) : Int) + (g : Int) = ((i * g + g : Nat) : Int) := by simp
    dsimp only; rw [ei]
    walk_at "r"
    rw [ej]
    have ha2 := st.fh _ _ (st.ff _ _ ha)
    refine s_slL (SqL.of ha2) fun w hw => ?_
    rw [cutV_nat, show i * g + g - i * g = g by omega]
    obtain ⟨s, hs⟩ : ∃ s, (chunk g ls)[i]? = some s := ⟨_, List.getElem?_eq_getElem hi⟩
    have hs2 := hs
    rw [chunk_get g0 _ i hi] at hs2
    have hsm := List.mem_of_getElem? hs
    have slen : s.length ≤ g := by rw [← Option.some.inj hs2, List.length_take]; omega
    have ldg := grp_ok g0 hL s hsm
    have rls : RL Fi ((us.drop (i * g)).take g) s := by
      rw [← Option.some.inj hs2]
      exact LV.mono st.ff (RL.take _ (RL.drop _ hR))
    generalize (us.drop (i * g)).take g = l at rls ⊢
    have lls := RL.len rls
    have s3 := Stp.new (S := S0) (o := .lst l) st.fh hw
    have h3 : upd Fi w (.lst l) w = some (.lst l) := upd_same
    have f3 : upd Fi w (.lst l) f = none := (s3.fo _ _ h2).trans fi
    have h23 := s3.same _ _ h2
    have st3 := st.trans s3
    have rl3 := LV.mono s3.ff rl
    have rls3 := LV.mono s3.ff rls
    clear s3 rl rls st
    generalize upd Fi w (.lst l) = F3 at *
    generalize upd H2 w (.lst l) = H3 at *
    walk_at "r"
    refine ⟨rfl, w, l, s, rfl, SqL.of (st3.fh _ _ h3), LV.mono st3.fh rls3, by omega, fun l hl => ldg l (List.mem_append_left _ hl), fun u H4 e4 u0 hu => ?_⟩
    have s4 := Stp.got (S := S0) st3.fh e4 u0 hu
    have h4u : upd F3 u (.lst ((sumC s).map V.int)) u = some (.lst ((sumC s).map V.int)) := upd_same
    have f4 : upd F3 u (.lst ((sumC s).map V.int)) f = none := (s4.fo _ _ h23).trans f3
    have h24 := s4.same _ _ h23
    have st4 := st3.trans s4
    have rl4 := LV.mono s4.ff rl3
    have rls4 := LV.mono s4.ff rls3
    have h34 := s4.ff _ _ h3
    clear s4 rl3 rls3 st3
    generalize upd F3 u (.lst ((sumC s).map V.int)) = F4 at *
    walk_at "r"
    refine ⟨sz (by simp), fun y hy => ?_⟩
    have e5 : Same H4 (upd H4 y (.lst [.ref u])) := (Stp.new (S := S0) (Same.refl _) hy).same
    have h5 : upd H4 y (.lst [.ref u]) y = some (.lst [.ref u]) := upd_same
    generalize upd H4 y (.lst [.ref u]) = H5 at e5 h5 ⊢
    walk_at "r"
    refine ⟨_, _, _, _, rfl, rfl, e5 _ _ (st4.fh _ _ h34), h5, sz (by rw [lls, List.length_singleton]; omega), fun c2 hc2 => ?_⟩
    have s6 := (Stp.ofSame (S := S0) st4.fh e5).trans (Stp.new (S := S0) (o := .lst (l ++ [.ref u])) (st4.fh.trans e5) hc2)
    have h6 : upd F4 c2 (.lst (l ++ [.ref u])) c2 = some (.lst (l ++ [.ref u])) := upd_same
    have f6 : upd F4 c2 (.lst (l ++ [.ref u])) f = none := (s6.fo _ _ h24).trans f4
    have h26 := s6.same _ _ h24
    have st6 := st4.trans s6
    have rl6 := LV.mono s6.ff rl4
    have rlc : RL (upd F4 c2 (.lst (l ++ [.ref u]))) (l ++ [.ref u]) (s ++ [sumC s]) := LV.mono s6.ff (RL.snoc rls4 h4u)
    clear s6 rl4 rls4 st4
    generalize upd F4 c2 (.lst (l ++ [.ref u])) = F6 at *
    generalize upd H5 c2 (.lst (l ++ [.ref u])) = H6 at *
    walk_at "r"
    refine ⟨c2, rfl, ⟨_, SqL.of (st6.fh _ _ h6)⟩, ?_⟩
    refine forL (xs := l ++ [.ref u]) (fun j σ H' => ∃ v5 Fj bccs, σ = [some (.ref a), some (.int g), some (.ref f), some (.int ((i * g : Nat) : Int)), some (.ref w), v5] ∧ Same F6 Fj ∧ Stp S0 F H Fj H' ∧ Fj f = none ∧ H' f = some (.lst bccs) ∧ RL Fj bccs ((((chunk g ls).take i).map grpC).flatten ++ ((s ++ [sumC s]).take j).map cellC) ∧ bccs.length ≤ 9 * i + j)
      ⟨_, F6, accs, rfl, Same.refl _, st6, f6, h26, by rw [List.take_zero, List.map_nil, List.append_nil]; exact rl6, by omega⟩ (fun j σ H' _ ⟨_, _, _, _, s, s', _⟩ => SqL.of (s'.fh _ _ (s _ _ h6))) ?_ ?_
    · rintro j x σ H7 hx ⟨v5, Fj, bccs, rfl, e67, st7, f7, h7, rl7, bl⟩
      obtain ⟨b3, l3, rfl, hl3, hb3⟩ := RL.get rlc j hx
      have ld3 := ldg l3 (List.mem_of_getElem? hl3)
      have hj : j < (s ++ [sumC s]).length := (List.getElem?_eq_some_iff.mp hl3).1
      have hj9 : j ≤ 8 := by rw [List.length_append, List.length_singleton] at hj; omega
      have hb7 := st7.fh _ _ (e67 _ _ hb3)
      walk_at "r"
      refine ⟨.inl ⟨rfl, _, SqL.of h7⟩, ?_⟩
      walk_at "r"
      refine ⟨rfl, b3, l3, rfl, SqL.of hb7, ld3.1, ld3.2, fun k H8 e8 k0 hk => ?_⟩
      refine ⟨_, _, _, _, rfl, rfl, e8 _ _ hb7, hk, sz (by rw [List.length_map, List.length_map, ld3.1, fixL_len]; decide), fun z hz => ?_⟩
      have ec : l3.map V.int ++ (fixL 8 (chk l3)).map V.int = (cellC l3).map V.int := by rw [cellC, List.map_append]
      rw [ec]
      have s9 := (Stp.ofSame (S := S0) st7.fh e8).trans (Stp.new (S := S0) (o := .lst ((cellC l3).map V.int)) (st7.fh.trans e8) hz)
      have h9 : upd Fj z (.lst ((cellC l3).map V.int)) z = some (.lst ((cellC l3).map V.int)) := upd_same
      have f9 : upd Fj z (.lst ((cellC l3).map V.int)) f = none := (s9.fo _ _ h7).trans f7
      have h79 := s9.same _ _ h7
      have st9 := st7.trans s9
      have rl9 := RL.snoc (LV.mono s9.ff rl7) h9
      have e69 := e67.trans s9.ff
      clear s9
      generalize upd Fj z (.lst ((cellC l3).map V.int)) = F9 at *
      generalize upd H8 z (.lst ((cellC l3).map V.int)) = H9 at *
      walk_at "r"
      refine ⟨f, _, _, rfl, rfl, h79, Nat.lt_of_lt_of_le (m := 100000) (by omega) (by decide), ?_⟩
      refine ⟨_, F9, bccs ++ [.ref z], rfl, e69, st9.wrNew hf f9, f9, upd_same, ?_, by rw [List.length_append, List.length_singleton]; omega⟩
      rw [List.getElem?_eq_getElem hj] at hl3
      rw [List.take_succ_eq_append_getElem hj, List.map_append, ← List.append_assoc, Option.some.inj hl3]
      exact rl9
    · rintro σ H7 ⟨v5, Fj, bccs, rfl, e67, st7, f7, h7, rl7, bl⟩
      have et : (s ++ [sumC s]).take (l ++ [V.ref u]).length = s ++ [sumC s] := List.take_of_length_le (by rw [List.length_append, List.length_append, lls]; exact Nat.le_refl _)
      rw [et] at rl7
      rw [List.length_append, List.length_singleton, lls] at bl
      refine ⟨_, _, _, Fj, bccs, rfl, st7, f7, h7, ?_, by omega⟩
      rw [List.getElem?_eq_getElem hi] at hs
      rw [List.take_succ_eq_append_getElem hi, List.map_append, List.flatten_append, Option.some.inj hs]
      rw [show (List.map grpC [s]).flatten = grpC s by simp]
      exact rl7
  · rintro σ H2 ⟨v3, v4, v5, Fi, accs, rfl, st, fi, h2, rl, al⟩
    rw [List.take_length] at rl
    walk_at "r"
    have s3 := st.freeze hf h2 fi
    refine q f _ H2 accs s3 upd_same (LV.mono (fun b o h => ?_) rl)
    rw [upd_ne (ne_of_none h fi)]; exact h
abbrev s_law_loads : Stmt := topS 44
theorem sc_law_loads : FnScope ["_law_told", "_law_whole", "_law_at"] ["_law_told"] (defScope s_law_loads) := ⟨rfl, rfl, rfl, by decide +kernel, rfl, by decide +kernel, by decide +kernel⟩
def Ok_law_loads (P : Program) (w : World) (K : PySem.W.Frag) (mg : Str → Option Value) (base : Heap) : Prop := ∃ fA fd, Fn P w K mg base (L2.CX P w) 1 "_law_loads" s_law_loads fA fd ["_law_told"] (sp_law_loads K mg)
theorem okx_law_loads (Z : Zs K mg) {fA : Addr} {fd : FuncData} (F : Fun K "_law_loads" "_law_loads" s_law_loads fA fd) (m : mg "_law_loads" = some (.ref fA))  : Fn P w K mg base (L2.CX P w) 1 "_law_loads" s_law_loads fA fd ["_law_told"] (sp_law_loads K mg) := by
  refine ⟨F.okX sc_law_loads (fun vs H Q E h => h.1) (fun cdv A outer s H vs Q E hr h => ?_), m, F.kp, F.binds fun _ _ _ _ _ _ us hl => match us, hl with | [_], _ => rfl, F⟩
  have hu64 := hr.units
  obtain ⟨hlen, h⟩ := h
  refine ⟨_, (pss_cons (ps_set (i := 1) sc_law_loads.nd rfl (Or.inr rfl) (pe_op op_cat (pv 0) (pe_op op_rep (pe_lst (pa_cons pe_int pa_nil)) (pe_op op_mod (pe_un un_neg (pe_callB (c_len K rfl) (by rfl) Z.z_len (by decide +kernel) (pa_cons (pv 0) pa_nil))) pe_int))))
    (pss_one (ps_ret (pe_lc (own := [("_law_at", 2)]) (g := gName 2) (tt := tYes) (by rfl) sc_law_loads.nd (pi_range3 rfl Z.z_range (pa_cons pe_int (pa_cons (pe_callB (c_len K rfl) (by rfl) Z.z_len (by decide +kernel) (pa_cons (pv 1) pa_nil)) (pa_cons pe_int pa_nil)))) (blkOk_by (own := [("_law_at", 2)]) (N := ["_law_told", "_law_whole", "_law_at"]) (sc := defScope s_law_loads) (by decide +kernel)) (fun _ _ _ _ _ => (pg_name (i := 2) sc_law_loads.nd rfl (Or.inl rfl))) (fun _ _ _ _ _ => pts_nil) (fun _ _ _ _ _ => (pe_slice (l_list K rfl) (pv 1) (po_some (pv 2)) (po_some (pe_op op_add (pv 2) pe_int)))))))), ?_⟩
  obtain ⟨F, a, t, rfl, hF, ha, hn, q⟩ := h
  have ha1 := hF _ _ ha
  walk_at "r"
  refine ⟨sz (by simp), fun b hb => ?_⟩
  have e3 : Same H (upd H b (.lst [.int 0])) := (Stp.new (S := S0) (Same.refl _) hb).same
  have h3 : upd H b (.lst [.int 0]) b = some (.lst [.int 0]) := upd_same
  generalize upd H b (.lst [.int 0]) = H3 at e3 h3 ⊢
  replace ha1 := e3 _ _ ha1
  walk_at "r"
  refine s_rep h3 (by omega) (by omega) fun b2 hb2 => ?_
  have ek : (-(((t.map V.int).length : Nat) : Int) % 48).toNat = (48 - t.length % 48) % 48 := by rw [List.length_map]; omega
  rw [ek]
  have e4 : Same H3 (upd H3 b2 (.lst (List.replicate ((48 - t.length % 48) % 48) (V.int 0)))) := (Stp.new (S := S0) (Same.refl _) hb2).same
  have h4 : upd H3 b2 (.lst (List.replicate ((48 - t.length % 48) % 48) (V.int 0))) b2 = some (.lst (List.replicate ((48 - t.length % 48) % 48) (V.int 0))) := upd_same
  generalize upd H3 b2 (.lst (List.replicate ((48 - t.length % 48) % 48) (V.int 0))) = H4 at e4 h4 ⊢
  replace ha1 := e4 _ _ ha1
  walk_at "r"
  have ep : t.map V.int ++ List.replicate ((48 - t.length % 48) % 48) (V.int 0) = (padC t).map V.int := by rw [padC, List.map_append, List.map_replicate]
  have hpl : (padC t).length ≤ 2100 := by rw [padC_length]; omega
  refine ⟨_, _, _, _, rfl, rfl, ha1, h4, sz (by rw [List.length_map, List.length_replicate]; omega), fun w hw => ?_⟩
  rw [ep]
  have e5 : Same H4 (upd H4 w (.lst ((padC t).map V.int))) := (Stp.new (S := S0) (Same.refl _) hw).same
  have h5 : upd H4 w (.lst ((padC t).map V.int)) w = some (.lst ((padC t).map V.int)) := upd_same
  generalize upd H4 w (.lst ((padC t).map V.int)) = H5 at e5 h5 ⊢
  have e05 : Same H H5 := e3.trans (e4.trans e5)
  walk_at "r"
  have en : ((((padC t).map V.int).length : Nat) : Int) + (48 : Int) - 1 = (((padC t).length + 48 - 1 : Nat) : Int) := by rw [List.length_map]; omega
  have hcl := chunk_len (k := 48) (by decide) (padC t)
  refine ⟨_, _, _, (chunk 48 (padC t)).length, rfl, ?_, ?_⟩
  · have := rgc_up (L := ((((padC t).map V.int).length : Nat) : Int)) (k := 48) (by omega) (by rw [List.length_map]; omega) (by decide) (by decide)
    rw [en, show (((padC t).length + 48 - 1 : Nat) : Int) / 48 = (((chunk 48 (padC t)).length : Nat) : Int) by rw [hcl]; simp, Int.toNat_natCast] at this
    exact this
  have hs5 : Stp S0 F H F H5 := .ofSame hF e05
  refine lcW walk_rangeC S0 hs5.fh (fun _ z => z.elim) (fun _ _ _ => trivial) (fun i acc F1 H1 => RL F1 acc ((chunk 48 (padC t)).take i)) (fun _ _ _ _ _ _ _ _ _ r => r) .nil ?_ ?_
  · rintro i x acc d F1 H1 H2 hi ⟨rfl, rfl⟩ hd nS st f0 e hl rr
    have ei : (0 : Int) + (i : Int) * 48 = ((i * 48 : Nat) : Int) := by simp
    have ej : ((i * 48 : Nat) : Int) + 48 = ((i * 48 + 48 : Nat) : Int) := by simp
    dsimp only; rw [ei]
    walk_at "r"
    rw [ej]
    refine s_slL (st.same.seq (SqL.of h5)) fun p hp => ?_
    rw [cutV_nat, show i * 48 + 48 - i * 48 = 48 by omega, ← List.map_drop, ← List.map_take]
    have s4 := Stp.new (S := S0) (o := .lst ((((padC t).drop (i * 48)).take 48).map V.int)) st.fh hp
    refine lc_end hd nS st f0 e hl (by omega) s4 ?_
    have hg := chunk_get (by decide) (padC t) i hi
    rw [List.take_succ_eq_append_getElem hi]
    rw [List.getElem?_eq_getElem hi] at hg
    rw [Option.some.inj hg]
    exact RL.snoc (LV.mono s4.ff rr) upd_same
  · intro d acc F0 F1 H1 st hd f0 ef st1 hl rr
    rw [List.take_length] at rr
    refine q d F1 H1 acc (hs5.trans st1) (by rw [ef]; exact upd_same) (LV.mono ?_ rr)
    rw [ef]
    exact (Stp.new (S := S0) (Same.refl F0) f0).ff
abbrev s_law_joined : Stmt := topS 45
theorem sc_law_joined : FnScope ["_law_cells_here", "_law_found", "_law_cell"] ["_law_cells_here"] (defScope s_law_joined) := ⟨rfl, rfl, rfl, by decide +kernel, rfl, by decide +kernel, by decide +kernel⟩
def Ok_law_joined (P : Program) (w : World) (K : PySem.W.Frag) (mg : Str → Option Value) (base : Heap) : Prop := ∃ fA fd, Fn P w K mg base (L2.CX P w) 1 "_law_joined" s_law_joined fA fd ["_law_cells_here"] (sp_law_joined K mg)
theorem okx_law_joined (Z : Zs K mg) {fA : Addr} {fd : FuncData} (F : Fun K "_law_joined" "_law_joined" s_law_joined fA fd) (m : mg "_law_joined" = some (.ref fA))  : Fn P w K mg base (L2.CX P w) 1 "_law_joined" s_law_joined fA fd ["_law_cells_here"] (sp_law_joined K mg) := by
  refine ⟨F.okX sc_law_joined (fun vs H Q E h => h.1) (fun cdv A outer s H vs Q E hr h => ?_), m, F.kp, F.binds fun _ _ _ _ _ _ us hl => match us, hl with | [_], _ => rfl, F⟩
  have hu64 := hr.units
  obtain ⟨hlen, h⟩ := h
  refine ⟨_, (pss_cons (ps_set (i := 1) sc_law_joined.nd rfl (Or.inl rfl) (pe_lst pa_nil))
    (pss_cons (ps_for (passes_of rfl) rfl (pi_list (pv 0)) (pg_name (i := 2) sc_law_joined.nd rfl (Or.inl rfl))
      (pss_one (ps_expr (pe_bm PySem.F.plainAttrs_list PySem.F.slot_list_extend PySem.F.type_list_extend mt_extend (pv 1) (pa_cons (pv 2) pa_nil)))))
    (pss_one (ps_ret (pv 1))))), ?_⟩
  obtain ⟨a, us, ls, rfl, hS, hR, hn, hL, q⟩ := h
  walk_at "r"
  refine ⟨sz (by simp), fun f hf => ?_⟩
  have c1 := Stp.cell (S := S0) (o := .lst []) (Same.refl H) hf
  have h1 : upd H f (.lst []) f = some (.lst []) := upd_same
  have e1 : Same H (upd H f (.lst [])) := c1.same
  generalize upd H f (.lst []) = H1 at e1 h1 ⊢
  walk_at "r"
  refine ⟨a, rfl, ⟨_, e1.seq hS⟩, ?_⟩
  refine forL (xs := us) (fun i σ H' => ∃ v, σ = [some (.ref a), some (.ref f), v] ∧ Same H H' ∧ H' f = some (.lst ((ls.take i).flatten.map V.int))) ⟨_, rfl, e1, by rw [h1]; simp⟩ (fun i σ H' _ ⟨_, _, s, _⟩ => s.seq hS) ?_ ?_
  · rintro i x σ H' hx ⟨v, rfl, e2, h2⟩
    obtain ⟨b, l, rfl, hl1, hb1⟩ := RL.get hR i hx
    have hi : i < ls.length := (List.getElem?_eq_some_iff.mp hl1).1
    have fl := flat_len (k := 56) (ls.take i) (fun b hb => hL b (List.mem_of_mem_take hb))
    rw [List.length_take] at fl
    have l56 := hL l (List.mem_of_getElem? hl1)
    walk_at "r"
    refine ⟨.inl ⟨rfl, _, SqL.of h2⟩, ?_⟩
    walk_at "r"
    refine ⟨f, b, _, _, rfl, rfl, h2, e2 _ _ hb1, Nat.le_trans (m := 100000) (by rw [List.length_map, List.length_map, fl, l56]; omega) (by decide), ?_⟩
    refine ⟨_, rfl, fun b' o' h' => ?_, ?_⟩
    · rw [upd_ne (ne_of_none h' hf)]; exact e2 _ _ h'
    · rw [List.getElem?_eq_getElem hi] at hl1
      rw [upd_same, List.take_succ_eq_append_getElem hi, List.flatten_append, Option.some.inj hl1]; simp
  · rintro σ H' ⟨v, rfl, e2, h2⟩
    walk_at "r"
    refine q f H' e2 hf ?_
    rw [h2, RL.len hR, List.take_length]
abbrev s_law_bits : Stmt := topS 46
theorem sc_law_bits : FnScope ["_law_source", "_law_cells_here", "_law_figures", "_law_many", "_law_found", "_law_rest", "_law_at"] ["_law_source"] (defScope s_law_bits) := ⟨rfl, rfl, rfl, by decide +kernel, rfl, by decide +kernel, by decide +kernel⟩
def Ok_law_bits (P : Program) (w : World) (K : PySem.W.Frag) (mg : Str → Option Value) (base : Heap) : Prop := ∃ fA fd, Fn P w K mg base (L2.CX P w) 2 "_law_bits" s_law_bits fA fd ["_law_source"] (sp_law_bits K mg)
theorem okx_law_bits (Z : Zs K mg) {fA : Addr} {fd : FuncData} (F : Fun K "_law_bits" "_law_bits" s_law_bits fA fd) (m : mg "_law_bits" = some (.ref fA)) (C_law_take : Ok_law_take P w K mg base) (C_law_count : Ok_law_count P w K mg base) : Fn P w K mg base (L2.CX P w) 2 "_law_bits" s_law_bits fA fd ["_law_source"] (sp_law_bits K mg) := by
  obtain ⟨_, _, C_law_take⟩ := C_law_take
  obtain ⟨_, _, C_law_count⟩ := C_law_count
  refine ⟨F.okX sc_law_bits (fun vs H Q E h => h.1) (fun cdv A outer s H vs Q E hr h => ?_), m, F.kp, F.binds fun _ _ _ _ _ _ us hl => match us, hl with | [_], _ => rfl, F⟩
  have hu64 := hr.units
  obtain ⟨hlen, h⟩ := h
  refine ⟨_, (pss_cons (ps_set (i := 1) sc_law_bits.nd rfl (Or.inl rfl) (pe_op op_add pe_int (pe_call C_law_take.G (hr.mono (by decide)) rfl C_law_take.m C_law_take.kp C_law_take.b .nil passL (pa_cons (pv 0) (pa_cons pe_int pa_nil)))))
    (pss_cons (ps_set (i := 2) sc_law_bits.nd rfl (Or.inl rfl) (pe_callB (c_len K rfl) (by rfl) Z.z_len (by decide +kernel) (pa_cons (pe_call C_law_count.G (hr.mono (by decide)) rfl C_law_count.m C_law_count.kp C_law_count.b .nil passL (pa_cons (pe_op op_mul pe_int (pv 1)) pa_nil)) pa_nil)))
    (pss_cons (ps_set (i := 3) sc_law_bits.nd rfl (Or.inl rfl) (pe_op op_sub (pe_op op_add (pe_op op_sub (pe_op op_mul pe_int (pv 1)) (pv 2)) (pe_call C_law_take.G (hr.mono (by decide)) rfl C_law_take.m C_law_take.kp C_law_take.b .nil passL (pa_cons (pv 0) (pa_cons pe_int pa_nil)))) pe_int))
    (pss_cons (ps_set (i := 3) sc_law_bits.nd rfl (Or.inl rfl) (pe_ifExp (pt_cmpR op_eq (pe_call C_law_take.G (hr.mono (by decide)) rfl C_law_take.m C_law_take.kp C_law_take.b .nil passL (pa_cons (pv 0) (pa_cons pe_int pa_nil))) pe_int (nomark _)) pe_int (pv 3)))
    (pss_cons (ps_par (i := 4) (j := 5) (by rfl) sc_law_bits.nd rfl rfl (by decide) rfl rfl (pa_cons (pe_lst pa_nil) (pa_cons pe_int pa_nil)) (by rfl))
    (pss_cons (ps_for (passes_of rfl) rfl (pi_range1 rfl Z.z_range (pa_cons (pv 3) pa_nil)) (pg_name (i := 6) sc_law_bits.nd rfl (Or.inl rfl))
      (pss_cons (ps_if (pt_cmpR op_eq (pe_op op_mod (pv 6) pe_int) pe_int (nomark _))
      (pss_one (ps_set (i := 5) sc_law_bits.nd rfl (Or.inl rfl) (pe_call C_law_take.G (hr.mono (by decide)) rfl C_law_take.m C_law_take.kp C_law_take.b .nil passL (pa_cons (pv 0) (pa_cons pe_int pa_nil)))))
      pss_nil)
    (pss_cons (ps_expr (pe_bm PySem.F.plainAttrs_list PySem.F.slot_list_append PySem.F.type_list_append mt_append (pv 4) (pa_cons (pe_op op_mod (pv 5) pe_int) pa_nil)))
    (pss_one (ps_set (i := 5) sc_law_bits.nd rfl (Or.inl rfl) (pe_op op_fdiv (pv 5) pe_int))))))
    (pss_one (ps_ret (pv 4))))))))), ?_⟩
  obtain ⟨F, p, rfl, hs, q⟩ := h
  walk_at "r"
  refine ⟨rfl, F, p, _, rfl, hs, by decide, by decide, fun r1 H1 s1 t1 r10 r11 => ?_⟩
  walk_at "r"
  refine ⟨rfl, (48 * (1 + r1)).toNat, by simp; omega, by omega, fun c H2 e2 c0 hc => ?_⟩
  have hcs := countL_short (n := (48 * (1 + r1)).toNat) (by omega)
  obtain ⟨fg, hfg⟩ : ∃ fg : Nat, ((countL (48 * (1 + r1)).toNat).map V.int).length = fg := ⟨_, rfl⟩
  have hfg2 : fg ≤ 17 := by rw [← hfg, List.length_map]; exact hcs
  have s2 := s1.of e2
  have t2 : Stp (S1 p) F H F H2 := t1.trans (.ofSame s1.1 e2)
  walk_at "r"
  rw [hfg]
  refine ⟨rfl, F, p, _, rfl, s2, by decide, by decide, fun r2 H3 s3 t3 r20 r21 => ?_⟩
  have t3 := t2.trans t3
  walk_at "r"
  refine ⟨rfl, F, p, _, rfl, s3, by decide, by decide, fun r3 H4 s4 t4 r30 r31 => ?_⟩
  have t4 := t3.trans t4
  walk_at "r"
  refine ifd (fun h3 => ?_) (fun h3 => ?_)
  · walk_at "r"
    refine ⟨sz (by simp), fun f hf => ?_⟩
    have cf := Stp.cell (S := S1 p) (o := .lst []) s4.1 hf
    have s5 := s4.upd (o := .lst []) (fun z => by obtain ⟨o, e⟩ := s4.dom; rw [← z, hf] at e; cases e) (s4.1.free hf)
    have h5 : upd H4 f (.lst []) f = some (.lst []) := upd_same
    have fF : F f = none := s4.1.free hf
    have f0 : H f = none := by
      cases e : H f with
      | none => rfl
      | some o =>
        obtain ⟨o', e'⟩ := t4.dom f o e
        rw [hf] at e'; cases e'
    have nfp : f ≠ p := fun z => by obtain ⟨o, e⟩ := s4.dom; rw [← z, hf] at e; cases e
    have t5 := t4.trans cf
    clear cf
    generalize upd H4 f (.lst []) = H5 at s5 h5 t5 ⊢
    walk_at "r"
    refine ⟨_, rfl, by omega, by omega, ?_⟩
    have hm : (0 : Int).toNat ≤ 400 := by omega
    refine forR (fun i σ H' => ∃ v6 rest bs, σ = [some (.ref p), some (.int (1 + r1)), some (.int fg), some (.int (0 : Int)), some (.ref f), some (.int rest), v6] ∧ Src F H' p ∧ Stp (S1 p) F H F H' ∧ H' f = some (.lst (bs.map V.int)) ∧ bs.length = i ∧ isBits bs) ⟨_, 0, [], rfl, s5, t5, h5, rfl, fun _ h => by cases h⟩ ?_ ?_
    · rintro i σ H6 hi ⟨v6, rest, bs, rfl, s6, t6, h6, bl, bb⟩
      have fin : ∀ (rest : Int) H7, Src F H7 p → Stp (S1 p) F H F H7 → H7 f = some (.lst (bs.map V.int)) → ∃ v6 rest' bs', ([some (.ref p), some (.int (1 + r1)), some (.int fg), some (.int (0 : Int)), some (.ref f), some (.int (rest / 2)), some (.int (0 + (i : Int)))] : L2.St) = [some (.ref p), some (.int (1 + r1)), some (.int fg), some (.int (0 : Int)), some (.ref f), some (.int rest'), v6] ∧ Src F (upd H7 f (.lst (bs.map V.int ++ [.int (rest % 2)]))) p ∧ Stp (S1 p) F H F (upd H7 f (.lst (bs.map V.int ++ [.int (rest % 2)]))) ∧ upd H7 f (.lst (bs.map V.int ++ [.int (rest % 2)])) f = some (.lst (bs'.map V.int)) ∧ bs'.length = i + 1 ∧ isBits bs' := fun rest H7 s7 t7 h7 =>
        ⟨_, _, bs ++ [rest % 2], rfl, s7.upd nfp fF, t7.wrNew f0 fF, by rw [upd_same]; simp, by simp [bl], fun x hx => by
          rcases List.mem_append.mp hx with hx | hx
          · exact bb x hx
          · rw [List.mem_singleton.mp hx]; unfold isBit; omega⟩
      walk_at "r"
      refine ifd (fun h => ?_) (fun h => ?_)
      · walk_at "r"
        refine ⟨rfl, F, p, _, rfl, s6, by decide, by decide, fun r5 H7 s7 t7 r50 r51 => ?_⟩
        have h7 := t7.keep _ _ (fun z => nfp z) h6
        walk_at "r"
        refine ⟨.inl ⟨rfl, _, SqL.of h7⟩, ?_⟩
        walk_at "r"
        refine ⟨f, _, _, rfl, rfl, h7, Nat.lt_of_lt_of_le (m := 10000) (by rw [List.length_map]; omega) (by decide), ?_⟩
        walk_at "r"
        exact fin r5 H7 s7 (t6.trans t7) h7
      · walk_at "r"
        refine ⟨.inl ⟨rfl, _, SqL.of h6⟩, ?_⟩
        walk_at "r"
        refine ⟨f, _, _, rfl, rfl, h6, Nat.lt_of_lt_of_le (m := 10000) (by rw [List.length_map]; omega) (by decide), ?_⟩
        walk_at "r"
        exact fin rest H6 s6 t6 h6
    · rintro σ H6 ⟨v6, rest, bs, rfl, s6, t6, h6, bl, bb⟩
      walk_at "r"
      have t7 := t6.freeze f0 h6 fF
      exact q f bs _ H6 (s6.frz nfp.symm t7.fh) t7 upd_same bb (by omega)
  · walk_at "r"
    refine ⟨sz (by simp), fun f hf => ?_⟩
    have cf := Stp.cell (S := S1 p) (o := .lst []) s4.1 hf
    have s5 := s4.upd (o := .lst []) (fun z => by obtain ⟨o, e⟩ := s4.dom; rw [← z, hf] at e; cases e) (s4.1.free hf)
    have h5 : upd H4 f (.lst []) f = some (.lst []) := upd_same
    have fF : F f = none := s4.1.free hf
    have f0 : H f = none := by
      cases e : H f with
      | none => rfl
      | some o =>
        obtain ⟨o', e'⟩ := t4.dom f o e
        rw [hf] at e'; cases e'
    have nfp : f ≠ p := fun z => by obtain ⟨o, e⟩ := s4.dom; rw [← z, hf] at e; cases e
    have t5 := t4.trans cf
    clear cf
    generalize upd H4 f (.lst []) = H5 at s5 h5 t5 ⊢
    walk_at "r"
    refine ⟨_, rfl, by omega, by omega, ?_⟩
    have hm : (48 * (1 + r1) - (fg : Int) + r2 - 2).toNat ≤ 400 := by omega
    refine forR (fun i σ H' => ∃ v6 rest bs, σ = [some (.ref p), some (.int (1 + r1)), some (.int fg), some (.int (48 * (1 + r1) - (fg : Int) + r2 - 2)), some (.ref f), some (.int rest), v6] ∧ Src F H' p ∧ Stp (S1 p) F H F H' ∧ H' f = some (.lst (bs.map V.int)) ∧ bs.length = i ∧ isBits bs) ⟨_, 0, [], rfl, s5, t5, h5, rfl, fun _ h => by cases h⟩ ?_ ?_
    · rintro i σ H6 hi ⟨v6, rest, bs, rfl, s6, t6, h6, bl, bb⟩
      have fin : ∀ (rest : Int) H7, Src F H7 p → Stp (S1 p) F H F H7 → H7 f = some (.lst (bs.map V.int)) → ∃ v6 rest' bs', ([some (.ref p), some (.int (1 + r1)), some (.int fg), some (.int (48 * (1 + r1) - (fg : Int) + r2 - 2)), some (.ref f), some (.int (rest / 2)), some (.int (0 + (i : Int)))] : L2.St) = [some (.ref p), some (.int (1 + r1)), some (.int fg), some (.int (48 * (1 + r1) - (fg : Int) + r2 - 2)), some (.ref f), some (.int rest'), v6] ∧ Src F (upd H7 f (.lst (bs.map V.int ++ [.int (rest % 2)]))) p ∧ Stp (S1 p) F H F (upd H7 f (.lst (bs.map V.int ++ [.int (rest % 2)]))) ∧ upd H7 f (.lst (bs.map V.int ++ [.int (rest % 2)])) f = some (.lst (bs'.map V.int)) ∧ bs'.length = i + 1 ∧ isBits bs' := fun rest H7 s7 t7 h7 =>
        ⟨_, _, bs ++ [rest % 2], rfl, s7.upd nfp fF, t7.wrNew f0 fF, by rw [upd_same]; simp, by simp [bl], fun x hx => by
          rcases List.mem_append.mp hx with hx | hx
          · exact bb x hx
          · rw [List.mem_singleton.mp hx]; unfold isBit; omega⟩
      walk_at "r"
      refine ifd (fun h => ?_) (fun h => ?_)
      · walk_at "r"
        refine ⟨rfl, F, p, _, rfl, s6, by decide, by decide, fun r5 H7 s7 t7 r50 r51 => ?_⟩
        have h7 := t7.keep _ _ (fun z => nfp z) h6
        walk_at "r"
        refine ⟨.inl ⟨rfl, _, SqL.of h7⟩, ?_⟩
        walk_at "r"
        refine ⟨f, _, _, rfl, rfl, h7, Nat.lt_of_lt_of_le (m := 10000) (by rw [List.length_map]; omega) (by decide), ?_⟩
        walk_at "r"
        exact fin r5 H7 s7 (t6.trans t7) h7
      · walk_at "r"
        refine ⟨.inl ⟨rfl, _, SqL.of h6⟩, ?_⟩
        walk_at "r"
        refine ⟨f, _, _, rfl, rfl, h6, Nat.lt_of_lt_of_le (m := 10000) (by rw [List.length_map]; omega) (by decide), ?_⟩
        walk_at "r"
        exact fin rest H6 s6 t6 h6
    · rintro σ H6 ⟨v6, rest, bs, rfl, s6, t6, h6, bl, bb⟩
      walk_at "r"
      have t7 := t6.freeze f0 h6 fF
      exact q f bs _ H6 (s6.frz nfp.symm t7.fh) t7 upd_same bb (by omega)
abbrev s_law_heard : Stmt := topS 47
theorem sc_law_heard : FnScope ["_law_bits_here", "_law_group"] ["_law_bits_here", "_law_group"] (defScope s_law_heard) := ⟨rfl, rfl, rfl, by decide +kernel, rfl, by decide +kernel, by decide +kernel⟩
def Ok_law_heard (P : Program) (w : World) (K : PySem.W.Frag) (mg : Str → Option Value) (base : Heap) : Prop := ∃ fA fd, Fn P w K mg base (L2.CX P w) 5 "_law_heard" s_law_heard fA fd ["_law_bits_here", "_law_group"] (sp_law_heard K mg)
theorem okx_law_heard (Z : Zs K mg) {fA : Addr} {fd : FuncData} (F : Fun K "_law_heard" "_law_heard" s_law_heard fA fd) (m : mg "_law_heard" = some (.ref fA)) (C_protect : Ok_protect P w K mg base) : Fn P w K mg base (L2.CX P w) 5 "_law_heard" s_law_heard fA fd ["_law_bits_here", "_law_group"] (sp_law_heard K mg) := by
  obtain ⟨_, _, C_protect⟩ := C_protect
  refine ⟨F.okX sc_law_heard (fun vs H Q E h => h.1) (fun cdv A outer s H vs Q E hr h => ?_), m, F.kp, F.binds fun _ _ _ _ _ _ us hl => match us, hl with | [_, _], _ => rfl, F⟩
  have hu64 := hr.units
  obtain ⟨hlen, h⟩ := h
  refine ⟨_, (pss_one (ps_tryH rfl rfl sc_law_heard.nd takes0 (fun W pn xe tk px => (pss_one (ps_ret (pe_callS C_protect.G (hr.mono (by decide)) rfl C_protect.m C_protect.kp C_protect.b (fun σ => passAt tk σ) (pa_cons (pv 0) (pa_cons (pv 1) pa_nil)))))) (.anon ⟨rfl, by decide, .inl Z.x_BadBits.g⟩ (fun a oe cls d pn hz hf => (pss_one (ps_ret pe_str))) (.anon ⟨rfl, by decide, .inl Z.x_Outside.g⟩ (fun a oe cls d pn hz hf => (pss_one (ps_ret pe_str))) (.anon ⟨rfl, by decide, .inl Z.x_NarrowError.g⟩ (fun a oe cls d pn hz hf => (pss_one (ps_ret pe_str))) .nil))))), ?_⟩
  obtain ⟨a, ns, g, s, rfl, ha, hn, hh, q⟩ := h
  walk_at "r"
  refine ⟨rfl, a, ns, g, rfl, ha, hn, ?_⟩
  rcases hh with ⟨h1, rfl⟩ | ⟨h1, h2, rfl⟩
  · refine .inl ⟨h1, true, Z.x_BadBits.exm Z.s_BadBits_BadBits, fun _ b hb => ?_, fun q => nomatch q⟩
    walk_at "r"
    exact q
  · refine .inr (.inl ⟨h1, h2, false, Z.x_BadBits.exm Z.s_Outside_BadBits, fun q => (nomatch q), fun _ => ⟨true, Z.x_Outside.exm Z.s_Outside_Outside, fun _ b hb => ?_, fun q => nomatch q⟩⟩)
    walk_at "r"
    exact q
abbrev s_law_is_plain : Stmt := topS 48
theorem sc_law_is_plain : FnScope ["_law_bits_here", "_law_bit"] ["_law_bits_here"] (defScope s_law_is_plain) := ⟨rfl, rfl, rfl, by decide +kernel, rfl, by decide +kernel, by decide +kernel⟩
def Ok_law_is_plain (P : Program) (w : World) (K : PySem.W.Frag) (mg : Str → Option Value) (base : Heap) : Prop := ∃ fA fd, Fn P w K mg base (L2.CX P w) 1 "_law_is_plain" s_law_is_plain fA fd ["_law_bits_here"] (sp_law_is_plain K mg)
theorem okx_law_is_plain (Z : Zs K mg) {fA : Addr} {fd : FuncData} (F : Fun K "_law_is_plain" "_law_is_plain" s_law_is_plain fA fd) (m : mg "_law_is_plain" = some (.ref fA))  : Fn P w K mg base (L2.CX P w) 1 "_law_is_plain" s_law_is_plain fA fd ["_law_bits_here"] (sp_law_is_plain K mg) := by
  refine ⟨F.okX sc_law_is_plain (fun vs H Q E h => h.1) (fun cdv A outer s H vs Q E hr h => ?_), m, F.kp, F.binds fun _ _ _ _ _ _ us hl => match us, hl with | [_], _ => rfl, F⟩
  have hu64 := hr.units
  obtain ⟨hlen, h⟩ := h
  refine ⟨_, (pss_one (ps_ret (pe_cmpR (o_eqD K rfl hu64) (pe_lc (own := [("_law_bit", 1)]) (g := gName 1) (tt := _) (by rfl) sc_law_is_plain.nd (pi_list (pv 0)) (blkOk_by (own := [("_law_bit", 1)]) (N := ["_law_bits_here", "_law_bit"]) (sc := defScope s_law_is_plain) (by decide +kernel)) (fun _ _ _ _ _ => (pg_name (i := 1) sc_law_is_plain.nd rfl (Or.inl rfl))) (fun _ _ _ _ _ => pts_one (PW.pt (pw_or (pt_not (pt_val (pe_callB (c_isi K rfl) (by rfl) Z.z_isinstance (by decide +kernel) (pa_cons (pv 1) (pa_cons (pe_bltn (v := .ty "int") (by rfl) Z.z_int (by decide +kernel) rfl) pa_nil))))) (pw_or1 (pt_val (pe_callB (c_isi K rfl) (by rfl) Z.z_isinstance (by decide +kernel) (pa_cons (pv 1) (pa_cons (pe_bltn (v := .ty "bool") (by rfl) Z.z_bool (by decide +kernel) rfl) pa_nil)))))))) (fun _ _ _ _ _ => (pv 1))) (pe_lst pa_nil) (nomark _)))), ?_⟩
  obtain ⟨a, ns, rfl, ha, hn, q⟩ := h
  walk_at "r"
  refine ⟨a, rfl, ⟨_, SqL.of ha⟩, ?_⟩
  refine lcW (walk_list (xs := ns.map V.int)) S0 (Same.refl H) (fun _ z => z.elim) (fun F1 H1 st => st.same.seq (SqL.of ha)) (fun i acc F1 H1 => acc = []) (fun _ _ _ _ _ _ _ _ _ r => r) rfl ?_ ?_
  · rintro j x acc d F1 H1 H2 hj ⟨rfl, hx⟩ hd nS st f0 e hl rr
    rw [List.getElem?_map] at hx
    cases z : ns[j]? with
    | none => rw [z] at hx; cases hx
    | some b =>
      rw [z] at hx
      cases hx
      walk_at "r"
      refine s_isi (b := true) (.base (.int b)) (by decide +kernel) ?_
      walk_at "r"
      refine s_isi (b := false) (.base (.int b)) (by decide +kernel) ?_
      walk_at "r"
      exact lc_skip hd nS st f0 e hl (.rfl' st.fh) rr
  · intro d acc F0 F1 H1 st hd f0 ef st1 hl rr
    subst rr
    have hd1 : H1 d = some (.lst []) := by rw [ef] at st1; exact st1.fh _ _ upd_same
    walk_at "r"
    refine ⟨sz (by simp), fun c hc => ?_⟩
    have s2 := Stp.new (S := S0) (o := .lst []) (Same.refl H1) hc
    refine s_eqL (ns := []) (ms := []) (SqL.of (s2.same _ _ hd1)) (SqL.of upd_same) ?_
    exact q _ (st.same.trans s2.same)
abbrev s_law : Stmt := topS 49
theorem sc_law : FnScope ["_law_script", "_law_k", "_law_source", "_law_bits_here", "_law_group", "_law_due", "_law_handed", "_law_told", "_law_cells_here", "_law_back", "_law_wrong", "_law_at", "_law_one_here"] ["_law_script"] (defScope s_law) := ⟨rfl, rfl, rfl, by decide +kernel, rfl, by decide +kernel, by decide +kernel⟩
def Ok_law (P : Program) (w : World) (K : PySem.W.Frag) (mg : Str → Option Value) (base : Heap) : Prop := ∃ fA fd, Fn P w K mg base (L2.CX P w) 6 "law" s_law fA fd ["_law_script"] (sp_law K mg)
theorem okx_law (Z : Zs K mg) {fA : Addr} {fd : FuncData} (F : Fun K "law" "law" s_law fA fd) (m : mg "law" = some (.ref fA)) (C_law_heard : Ok_law_heard P w K mg base) (C_law_take : Ok_law_take P w K mg base) (C_law_one : Ok_law_one P w K mg base) (C_open_cells : Ok_open_cells P w K mg base) (C_law_is_plain : Ok_law_is_plain P w K mg base) (C_protect : Ok_protect P w K mg base) (C_law_joined : Ok_law_joined P w K mg base) (C_law_cells : Ok_law_cells P w K mg base) (C_law_loads : Ok_law_loads P w K mg base) (C_law_count : Ok_law_count P w K mg base) (C_law_bits : Ok_law_bits P w K mg base) (C_law_pool : Ok_law_pool P w K mg base) : Fn P w K mg base (L2.CX P w) 6 "law" s_law fA fd ["_law_script"] (sp_law K mg) := by
  obtain ⟨_, _, C_law_heard⟩ := C_law_heard
  obtain ⟨_, _, C_law_take⟩ := C_law_take
  obtain ⟨_, _, C_law_one⟩ := C_law_one
  obtain ⟨_, _, C_open_cells⟩ := C_open_cells
  obtain ⟨_, _, C_law_is_plain⟩ := C_law_is_plain
  obtain ⟨_, _, C_protect⟩ := C_protect
  obtain ⟨_, _, C_law_joined⟩ := C_law_joined
  obtain ⟨_, _, C_law_cells⟩ := C_law_cells
  obtain ⟨_, _, C_law_loads⟩ := C_law_loads
  obtain ⟨_, _, C_law_count⟩ := C_law_count
  obtain ⟨_, _, C_law_bits⟩ := C_law_bits
  obtain ⟨_, _, C_law_pool⟩ := C_law_pool
  refine ⟨F.okX sc_law (fun vs H Q E h => h.1) (fun cdv A outer s H vs Q E hr h => ?_), m, F.kp, F.binds fun _ _ _ _ _ _ us hl => match us, hl with | [_], _ => rfl, F⟩
  have hu64 := hr.units
  obtain ⟨hlen, h⟩ := h
  refine ⟨_, (pss_cons (ps_for (passes_of rfl) rfl (pi_range1 rfl Z.z_range (pa_cons (pe_callB (c_max2 rfl) (by rfl) Z.z_max (by decide +kernel) (pa_cons pe_int (pa_cons (pe_callB (c_min2 rfl) (by rfl) Z.z_min (by decide +kernel) (pa_cons pe_int (pa_cons (pe_callB (c_len K rfl) (by rfl) Z.z_len (by decide +kernel) (pa_cons (pv 0) pa_nil)) pa_nil))) pa_nil))) pa_nil)) (pg_name (i := 1) sc_law.nd rfl (Or.inl rfl))
      (pss_cons (ps_set (i := 2) sc_law.nd rfl (Or.inl rfl) (pe_call C_law_pool.G (hr.mono (by decide)) rfl C_law_pool.m C_law_pool.kp C_law_pool.b .nil passL (pa_cons (pv 0) (pa_cons (pv 1) pa_nil))))
    (pss_cons (ps_asg (pe_tup (pa_cons (pe_call C_law_bits.G (hr.mono (by decide)) rfl C_law_bits.m C_law_bits.kp C_law_bits.b .nil passL (pa_cons (pv 2) pa_nil)) (pa_cons (pe_op op_add pe_int (pe_call C_law_take.G (hr.mono (by decide)) rfl C_law_take.m C_law_take.kp C_law_take.b .nil passL (pa_cons (pv 2) (pa_cons pe_int pa_nil)))) pa_nil))) (pg_tup rfl (pgs_cons (pg_name (i := 3) sc_law.nd rfl (Or.inr rfl)) (pgs_cons (pg_name (i := 4) sc_law.nd rfl (Or.inl rfl)) pgs_nil))))
    (pss_cons (ps_set (i := 5) sc_law.nd rfl (Or.inl rfl) (pe_call C_law_joined.G (hr.mono (by decide)) rfl C_law_joined.m C_law_joined.kp C_law_joined.b .nil passL (pa_cons (pe_call C_law_cells.G (hr.mono (by decide)) rfl C_law_cells.m C_law_cells.kp C_law_cells.b .nil passL (pa_cons (pe_call C_law_loads.G (hr.mono (by decide)) rfl C_law_loads.m C_law_loads.kp C_law_loads.b .nil passL (pa_cons (pe_op op_cat (pe_call C_law_count.G (hr.mono (by decide)) rfl C_law_count.m C_law_count.kp C_law_count.b .nil passL (pa_cons (pe_callB (c_len K rfl) (by rfl) Z.z_len (by decide +kernel) (pa_cons (pv 3) pa_nil)) pa_nil)) (pv 3)) pa_nil)) (pa_cons (pv 4) pa_nil))) pa_nil)))
    (pss_cons (ps_set (i := 6) sc_law.nd rfl (Or.inl rfl) (pe_callTy call_list_of (by rfl) Z.z_list (by decide +kernel) (pa_cons (pv 3) pa_nil)))
    (pss_cons (ps_set (i := 7) sc_law.nd rfl (Or.inl rfl) (pe_call C_protect.G (hr.mono (by decide)) rfl C_protect.m C_protect.kp C_protect.b .nil passL (pa_cons (pv 6) (pa_cons (pv 4) pa_nil))))
    (pss_cons (ps_if (PW.pt (pw_or (pt_cmpR (o_neD K rfl hu64) (pv 7) (pv 5) (nomark _)) (pw_or (pt_not (pt_val (pe_call C_law_is_plain.G (hr.mono (by decide)) rfl C_law_is_plain.m C_law_is_plain.kp C_law_is_plain.b .nil passL (pa_cons (pv 7) pa_nil)))) (pw_or1 (pt_cmpR (o_neD K rfl hu64) (pv 6) (pv 3) (nomark _))))))
      (pss_one (ps_ret pe_bl))
      pss_nil)
    (pss_cons (ps_expr (pe_bm PySem.F.plainAttrs_list PySem.F.slot_list_append PySem.F.type_list_append mt_append (pv 7) (pa_cons pe_int pa_nil)))
    (pss_cons (ps_if (pt_cmpR (o_neD K rfl hu64) (pe_callK0 C_protect.G (hr.mono (by decide)) rfl C_protect.m C_protect.kp (C_protect.F.kbinds2 ["group", "bits"] (by decide) (fun _ _ _ _ _ _ a b => rfl)) passL (pk_cons (pv 4) (pk_cons (pv 6) pk_nil))) (pv 5) (nomark _))
      (pss_one (ps_ret pe_bl))
      pss_nil)
    (pss_cons (ps_set (i := 8) sc_law.nd rfl (Or.inl rfl) (pe_callTy call_list_of (by rfl) Z.z_list (by decide +kernel) (pa_cons (pv 5) pa_nil)))
    (pss_cons (ps_set (i := 9) sc_law.nd rfl (Or.inl rfl) (pe_call C_open_cells.G (hr.mono (by decide)) rfl C_open_cells.m C_open_cells.kp C_open_cells.b .nil passL (pa_cons (pv 8) (pa_cons (pv 4) pa_nil))))
    (pss_cons (ps_if (PW.pt (pw_or (pt_cmpR (o_neD K rfl hu64) (pv 9) (pv 3) (nomark _)) (pw_or (pt_not (pt_val (pe_call C_law_is_plain.G (hr.mono (by decide)) rfl C_law_is_plain.m C_law_is_plain.kp C_law_is_plain.b .nil passL (pa_cons (pv 9) pa_nil)))) (pw_or1 (pt_cmpR (o_neD K rfl hu64) (pv 8) (pv 5) (nomark _))))))
      (pss_one (ps_ret pe_bl))
      pss_nil)
    (pss_cons (ps_expr (pe_bm PySem.F.plainAttrs_list PySem.F.slot_list_append PySem.F.type_list_append mt_append (pv 9) (pa_cons pe_int pa_nil)))
    (pss_cons (ps_if (pt_cmpR (o_neD K rfl hu64) (pe_callK0 C_open_cells.G (hr.mono (by decide)) rfl C_open_cells.m C_open_cells.kp (C_open_cells.F.kbinds 0 ["protected", "group"] (by decide) (fun _ _ _ _ _ _ us ws hu hw => match us, ws, hu, hw with | [], [_, _], _, _ => rfl)) passL (pk_cons (pv 8) (pk_cons (pv 4) pk_nil))) (pv 3) (nomark _))
      (pss_one (ps_ret pe_bl))
      pss_nil)
    (pss_cons (ps_set (i := 10) sc_law.nd rfl (Or.inl rfl) (pe_call C_law_one.G (hr.mono (by decide)) rfl C_law_one.m C_law_one.kp C_law_one.b .nil passL (pa_cons (pv 2) (pa_cons (pe_lst (pa_cons pe_int (pa_cons (pe_un un_neg pe_int) (pa_cons pe_int pa_nil)))) pa_nil))))
    (pss_cons (ps_set (i := 11) sc_law.nd rfl (Or.inl rfl) (pe_call C_law_take.G (hr.mono (by decide)) rfl C_law_take.m C_law_take.kp C_law_take.b .nil passL (pa_cons (pv 2) (pa_cons (pe_op op_add (pe_callB (c_len K rfl) (by rfl) Z.z_len (by decide +kernel) (pa_cons (pv 3) pa_nil)) pe_int) pa_nil))))
    (pss_cons (ps_if (pt_cmpR op_ne (pe_call C_law_heard.G (hr.mono (by decide)) rfl C_law_heard.m C_law_heard.kp C_law_heard.b .nil passL (pa_cons (pe_op op_cat (pe_op op_cat (pe_slice (l_list K rfl) (pv 3) po_none (po_some (pv 11))) (pe_lst (pa_cons (pv 10) pa_nil))) (pe_slice (l_list K rfl) (pv 3) (po_some (pv 11)) po_none)) (pa_cons pe_int pa_nil))) pe_str (nomark _))
      (pss_one (ps_ret pe_bl))
      pss_nil)
    (pss_one (ps_if (pt_cmpR (o_neD K rfl hu64) (pe_lc (own := [("_law_one_here", 12)]) (g := gName 12) (tt := tYes) (by rfl) sc_law.nd (pi_list (pe_lst (pa_cons pe_int (pa_cons pe_int (pa_cons (pe_un un_neg pe_int) pa_nil))))) (blkOk_by (own := [("_law_one_here", 12)]) (N := ["_law_script", "_law_k", "_law_source", "_law_bits_here", "_law_group", "_law_due", "_law_handed", "_law_told", "_law_cells_here", "_law_back", "_law_wrong", "_law_at", "_law_one_here"]) (sc := defScope s_law) (by decide +kernel)) (fun _ _ _ _ _ => (pg_name (i := 12) sc_law.nd rfl (Or.inl rfl))) (fun _ _ _ _ _ => pts_nil) (fun _ _ _ _ _ => (pe_call C_law_heard.G (hr.mono (by decide)) rfl C_law_heard.m C_law_heard.kp C_law_heard.b .nil passL (pa_cons (pv 3) (pa_cons (pv 12) pa_nil))))) (pe_op op_rep (pe_lst (pa_cons pe_str pa_nil)) pe_int) (nomark _))
      (pss_one (ps_ret pe_bl))
      pss_nil)))))))))))))))))))
    (pss_one (ps_ret pe_bl))), ?_⟩
  obtain ⟨sc, ns, rfl, hS, hl, q⟩ := h
  walk_at "r"
  refine ⟨_, rfl, by split <;> split <;> omega, by split <;> split <;> omega, ?_⟩
  refine forR (fun i σ H' => ∃ v1 v2 v3 v4 v5 v6 v7 v8 v9 v10 v11 v12, σ = [some (.ref sc), v1, v2, v3, v4, v5, v6, v7, v8, v9, v10, v11, v12] ∧ Same H H') ⟨_, _, _, _, _, _, _, _, _, _, _, _, rfl, Same.refl H⟩ ?_ ?_
  · rintro i σ H1 hi ⟨v1, v2, v3, v4, v5, v6, v7, v8, v9, v10, v11, v12, rfl, e1⟩
    walk_at "r"
    refine ⟨rfl, sc, ns, _, rfl, e1.seq hS, by omega, ?_, fun p H2 s2 => ?_⟩
    · have : i < 3 := Nat.lt_of_lt_of_le hi (by split <;> split <;> omega)
      omega
    walk_at "r"
    refine ⟨rfl, H1, p, rfl, s2, fun qa bs F3 H3 s3 t3 e_qa bB bl => ?_⟩
    walk_at "r"
    refine ⟨rfl, F3, p, _, rfl, s3, by decide, by decide, fun r1 H4 s4 t4 r10 r11 => ?_⟩
    have E3 := e1.trans t3.ff
    obtain ⟨gn, eg⟩ : ∃ gn : Nat, 1 + r1 = (gn : Int) := ⟨(1 + r1).toNat, by omega⟩
    have gn0 : 0 < gn := by omega
    have lds := loads_ok bB (by omega)
    have hgood := all_good.mpr bB
    have hLn := loads_length bs
    have htl := toldC_length bs
    have hcs := countL_short bl
    have cm := cells_mem gn0 lds
    have hcl := cells_le gn0 (loadsC bs)
    have hpl : (protC gn bs).length = (cellsC gn (loadsC bs)).length * 56 := flat_len _ fun c hc => (cm c hc).1
    walk_at "r"
    rw [eg]
    refine ⟨sz (by simp), fun tp htp => ?_⟩
    have s_10 := s4.new (o := .tup [.ref qa, .int gn]) htp
    have f_10 := (Stp.new (S := S0) (o := .tup [.ref qa, .int gn]) s4.1 htp).ff
    have e_tp : upd F3 tp (.tup [.ref qa, .int gn]) tp = some (.tup [.ref qa, .int gn]) := upd_same
    have E_10 := E3.trans f_10
    generalize upd F3 tp (.tup [.ref qa, .int gn]) = F_10 at s_10 f_10 e_tp E_10
    generalize upd H4 tp (.tup [.ref qa, .int gn]) = H_10 at s_10 ⊢
    replace e_qa := f_10 _ _ e_qa
    walk_at "r"
    refine s_gtup (SqT.of (s_10.1 _ _ e_tp)) rfl ?_
    walk_at "r"
    refine s_len (SqL.of (s_10.1 _ _ e_qa)) ?_
    walk_at "r"
    refine ⟨rfl, bs.length, by rw [List.length_map]; rfl, by omega, fun c H_11 e_11 c0 hc => ?_⟩
    have g_11 := Stp.got (S := S0) s_10.1 e_11 c0 hc
    have s_11 := (s_10.of e_11).frz (s_10.ne c0) g_11.fh
    have f_11 := g_11.ff
    have e_c : upd F_10 c (.lst ((countL bs.length).map V.int)) c = some (.lst ((countL bs.length).map V.int)) := upd_same
    have E_11 := E_10.trans f_11
    clear g_11
    generalize upd F_10 c (.lst ((countL bs.length).map V.int)) = F_11 at s_11 f_11 e_c E_11
    replace e_qa := f_11 _ _ e_qa
    replace e_tp := f_11 _ _ e_tp
    walk_at "r"
    refine ⟨_, _, _, _, rfl, rfl, (s_11.1 _ _ e_c), (s_11.1 _ _ e_qa), sz (by rw [List.length_map, List.length_map]; omega), fun t1 ht1 => ?_⟩
    rw [show (countL bs.length).map V.int ++ bs.map V.int = (toldC bs).map V.int by rw [toldC, List.map_append]]
    have s_12 := s_11.new (o := .lst ((toldC bs).map V.int)) ht1
    have f_12 := (Stp.new (S := S0) (o := .lst ((toldC bs).map V.int)) s_11.1 ht1).ff
    have e_t1 : upd F_11 t1 (.lst ((toldC bs).map V.int)) t1 = some (.lst ((toldC bs).map V.int)) := upd_same
    have E_12 := E_11.trans f_12
    generalize upd F_11 t1 (.lst ((toldC bs).map V.int)) = F_12 at s_12 f_12 e_t1 E_12
    generalize upd H_11 t1 (.lst ((toldC bs).map V.int)) = H_12 at s_12 ⊢
    replace e_qa := f_12 _ _ e_qa
    replace e_tp := f_12 _ _ e_tp
    replace e_c := f_12 _ _ e_c
    walk_at "r"
    refine ⟨rfl, F_12, t1, toldC bs, rfl, s_12.1, e_t1, by omega, fun p1 F_13 H_13 a1 t_13 e_p1 r_p1 => ?_⟩
    have s_13 := s_12.st0 t_13
    have f_13 := t_13.ff
    have E_13 := E_12.trans f_13
    replace e_qa := f_13 _ _ e_qa
    replace e_tp := f_13 _ _ e_tp
    replace e_c := f_13 _ _ e_c
    replace e_t1 := f_13 _ _ e_t1
    walk_at "r"
    refine ⟨rfl, F_13, p1, a1, loadsC bs, gn, rfl, s_13.1, e_p1, r_p1, by omega, lds, by omega, by omega, fun p2 F_14 H_14 a2 t_14 e_p2 r_p2 => ?_⟩
    have s_14 := s_13.st0 t_14
    have f_14 := t_14.ff
    have E_14 := E_13.trans f_14
    replace e_qa := f_14 _ _ e_qa
    replace e_tp := f_14 _ _ e_tp
    replace e_c := f_14 _ _ e_c
    replace e_t1 := f_14 _ _ e_t1
    replace e_p1 := f_14 _ _ e_p1
    walk_at "r"
    refine ⟨rfl, p2, a2, cellsC gn (loadsC bs), rfl, SqL.of (s_14.1 _ _ e_p2), LV.mono s_14.1 r_p2, by omega, fun c hc => (cm c hc).1, fun d H_15 e_15 d0 hd => ?_⟩
    change H_15 d = some (.lst ((protC gn bs).map V.int)) at hd
    have g_15 := Stp.got (S := S0) s_14.1 e_15 d0 hd
    have s_15 := (s_14.of e_15).frz (s_14.ne d0) g_15.fh
    have f_15 := g_15.ff
    have e_d : upd F_14 d (.lst ((protC gn bs).map V.int)) d = some (.lst ((protC gn bs).map V.int)) := upd_same
    have E_15 := E_14.trans f_15
    clear g_15
    generalize upd F_14 d (.lst ((protC gn bs).map V.int)) = F_15 at s_15 f_15 e_d E_15
    replace e_qa := f_15 _ _ e_qa
    replace e_tp := f_15 _ _ e_tp
    replace e_c := f_15 _ _ e_c
    replace e_t1 := f_15 _ _ e_t1
    replace e_p1 := f_15 _ _ e_p1
    replace e_p2 := f_15 _ _ e_p2
    walk_at "r"
    refine ⟨qa, _, rfl, .inl (SqL.of (s_15.1 _ _ e_qa)), fun h hh => ?_⟩
    have s_16 := s_15.new (o := .lst (bs.map V.int)) hh
    have f_16 := (Stp.new (S := S0) (o := .lst (bs.map V.int)) s_15.1 hh).ff
    have e_h : upd F_15 h (.lst (bs.map V.int)) h = some (.lst (bs.map V.int)) := upd_same
    have E_16 := E_15.trans f_16
    generalize upd F_15 h (.lst (bs.map V.int)) = F_16 at s_16 f_16 e_h E_16
    generalize upd H_15 h (.lst (bs.map V.int)) = H_16 at s_16 ⊢
    replace e_qa := f_16 _ _ e_qa
    replace e_tp := f_16 _ _ e_tp
    replace e_c := f_16 _ _ e_c
    replace e_t1 := f_16 _ _ e_t1
    replace e_p1 := f_16 _ _ e_p1
    replace e_p2 := f_16 _ _ e_p2
    replace e_d := f_16 _ _ e_d
    walk_at "r"
    refine ⟨rfl, h, bs, (gn : Int), rfl, (s_16.1 _ _ e_h), by omega, .inr (.inr ⟨hgood, by omega, by omega, fun td H_17 e_17 td0 htd => ?_⟩)⟩
    rw [Int.toNat_natCast] at htd
    have s_17 := s_16.of e_17
    have ntd : td ≠ p := (s_16.ne td0).symm
    have Ftd := s_16.1.free td0
    walk_at "r"
    refine s_neL (SqL.of htd) (SqL.of (s_17.1 _ _ e_d)) ?_
    walk_at "r"
    refine ifn (fun _ => ?_) (fun h => absurd rfl h)
    walk_at "r"
    refine ⟨rfl, td, protC gn bs, rfl, htd, by omega, fun H_18 e_18 => ?_⟩
    have s_18 := s_17.of e_18
    replace htd := e_18 _ _ htd
    walk_at "r"
    refine s_neL (SqL.of (s_18.1 _ _ e_h)) (SqL.of (s_18.1 _ _ e_qa)) ?_
    walk_at "r"
    refine ifn (fun _ => ?_) (fun h => absurd rfl h)
    walk_at "r"
    refine ⟨.inl ⟨rfl, _, SqL.of htd⟩, ?_⟩
    walk_at "r"
    refine ⟨td, _, _, rfl, rfl, htd, Nat.lt_of_lt_of_le (m := 100000) (by rw [List.length_map]; omega) (by decide), ?_⟩
    have s_19 := s_18.upd (o := .lst ((protC gn bs).map V.int ++ [.int 1])) ntd Ftd
    generalize upd H_18 td (.lst ((protC gn bs).map V.int ++ [.int 1])) = H_19 at s_19 ⊢
    walk_at "r"
    refine ⟨rfl, h, bs, (gn : Int), rfl, (s_19.1 _ _ e_h), by omega, .inr (.inr ⟨hgood, by omega, by omega, fun te H_20 e_20 te0 hte => ?_⟩)⟩
    rw [Int.toNat_natCast] at hte
    have s_20 := s_19.of e_20
    have nte : te ≠ p := (s_19.ne te0).symm
    have Fte := s_19.1.free te0
    walk_at "r"
    refine s_neL (SqL.of hte) (SqL.of (s_20.1 _ _ e_d)) ?_
    walk_at "r"
    refine ifn (fun _ => ?_) (fun h => absurd rfl h)
    walk_at "r"
    refine ⟨d, _, rfl, .inl (SqL.of (s_20.1 _ _ e_d)), fun ch hch => ?_⟩
    have s_21 := s_20.new (o := .lst ((protC gn bs).map V.int)) hch
    have f_21 := (Stp.new (S := S0) (o := .lst ((protC gn bs).map V.int)) s_20.1 hch).ff
    have e_ch : upd F_16 ch (.lst ((protC gn bs).map V.int)) ch = some (.lst ((protC gn bs).map V.int)) := upd_same
    have E_21 := E_16.trans f_21
    generalize upd F_16 ch (.lst ((protC gn bs).map V.int)) = F_21 at s_21 f_21 e_ch E_21
    generalize upd H_20 ch (.lst ((protC gn bs).map V.int)) = H_21 at s_21 ⊢
    replace e_qa := f_21 _ _ e_qa
    replace e_tp := f_21 _ _ e_tp
    replace e_c := f_21 _ _ e_c
    replace e_t1 := f_21 _ _ e_t1
    replace e_p1 := f_21 _ _ e_p1
    replace e_p2 := f_21 _ _ e_p2
    replace e_d := f_21 _ _ e_d
    replace e_h := f_21 _ _ e_h
    walk_at "r"
    refine ⟨rfl, ch, bs, gn, rfl, SqL.of (s_21.1 _ _ e_ch), bB, bl, by omega, by omega, fun bk H_22 e_22 bk0 hbk => ?_⟩
    have s_22 := s_21.of e_22
    have nbk : bk ≠ p := (s_21.ne bk0).symm
    have Fbk := s_21.1.free bk0
    walk_at "r"
    refine s_neL (SqL.of hbk) (SqL.of (s_22.1 _ _ e_qa)) ?_
    walk_at "r"
    refine ifn (fun _ => ?_) (fun h => absurd rfl h)
    walk_at "r"
    refine ⟨rfl, bk, bs, rfl, hbk, by omega, fun H_23 e_23 => ?_⟩
    have s_23 := s_22.of e_23
    replace hbk := e_23 _ _ hbk
    walk_at "r"
    refine s_neL (SqL.of (s_23.1 _ _ e_ch)) (SqL.of (s_23.1 _ _ e_d)) ?_
    walk_at "r"
    refine ifn (fun _ => ?_) (fun h => absurd rfl h)
    walk_at "r"
    refine ⟨.inl ⟨rfl, _, SqL.of hbk⟩, ?_⟩
    walk_at "r"
    refine ⟨bk, _, _, rfl, rfl, hbk, Nat.lt_of_lt_of_le (m := 100000) (by rw [List.length_map]; omega) (by decide), ?_⟩
    have s_24 := s_23.upd (o := .lst ((bs).map V.int ++ [.int 1])) nbk Fbk
    generalize upd H_23 bk (.lst ((bs).map V.int ++ [.int 1])) = H_24 at s_24 ⊢
    walk_at "r"
    refine ⟨rfl, ch, bs, gn, rfl, SqL.of (s_24.1 _ _ e_ch), bB, bl, by omega, by omega, fun bl2 H_25 e_25 bl20 hbl2 => ?_⟩
    have s_25 := s_24.of e_25
    have nbl2 : bl2 ≠ p := (s_24.ne bl20).symm
    have Fbl2 := s_24.1.free bl20
    walk_at "r"
    refine s_neL (SqL.of hbl2) (SqL.of (s_25.1 _ _ e_qa)) ?_
    walk_at "r"
    refine ifn (fun _ => ?_) (fun h => absurd rfl h)
    walk_at "r"
    refine ⟨sz (by simp), fun w0 hw0 => ?_⟩
    have s_26 := s_25.new (o := .lst [.int 2, .int (-1), .int 3]) hw0
    have f_26 := (Stp.new (S := S0) (o := .lst [.int 2, .int (-1), .int 3]) s_25.1 hw0).ff
    have e_w0 : upd F_21 w0 (.lst [.int 2, .int (-1), .int 3]) w0 = some (.lst [.int 2, .int (-1), .int 3]) := upd_same
    have E_26 := E_21.trans f_26
    generalize upd F_21 w0 (.lst [.int 2, .int (-1), .int 3]) = F_26 at s_26 f_26 e_w0 E_26
    generalize upd H_25 w0 (.lst [.int 2, .int (-1), .int 3]) = H_26 at s_26 ⊢
    replace e_qa := f_26 _ _ e_qa
    replace e_tp := f_26 _ _ e_tp
    replace e_c := f_26 _ _ e_c
    replace e_t1 := f_26 _ _ e_t1
    replace e_p1 := f_26 _ _ e_p1
    replace e_p2 := f_26 _ _ e_p2
    replace e_d := f_26 _ _ e_d
    replace e_h := f_26 _ _ e_h
    replace e_ch := f_26 _ _ e_ch
    walk_at "r"
    refine ⟨rfl, F_26, p, w0, [2, -1, 3], rfl, s_26, SqL.of e_w0, by simp, by simp, fun wr H_27 s_27 u_27 hwr => ?_⟩
    walk_at "r"
    refine s_len (SqL.of (s_27.1 _ _ e_qa)) ?_
    walk_at "r"
    refine ⟨rfl, F_26, p, _, rfl, s_27, by rw [List.length_map]; omega, by rw [List.length_map]; omega, fun av H_28 s_28 u_28 av0 av1 => ?_⟩
    rw [List.length_map] at av1
    obtain ⟨an, rfl⟩ : ∃ an : Nat, av = (an : Int) := ⟨av.toNat, by omega⟩
    walk_at "r"
    refine s_slL (SqL.of (s_28.1 _ _ e_qa)) fun x1 hx1 => ?_
    rw [cutV_to, ← List.map_take]
    have s_29 := s_28.new (o := .lst ((bs.take an).map V.int)) hx1
    have f_29 := (Stp.new (S := S0) (o := .lst ((bs.take an).map V.int)) s_28.1 hx1).ff
    have e_x1 : upd F_26 x1 (.lst ((bs.take an).map V.int)) x1 = some (.lst ((bs.take an).map V.int)) := upd_same
    have E_29 := E_26.trans f_29
    generalize upd F_26 x1 (.lst ((bs.take an).map V.int)) = F_29 at s_29 f_29 e_x1 E_29
    generalize upd H_28 x1 (.lst ((bs.take an).map V.int)) = H_29 at s_29 ⊢
    replace e_qa := f_29 _ _ e_qa
    replace e_tp := f_29 _ _ e_tp
    replace e_c := f_29 _ _ e_c
    replace e_t1 := f_29 _ _ e_t1
    replace e_p1 := f_29 _ _ e_p1
    replace e_p2 := f_29 _ _ e_p2
    replace e_d := f_29 _ _ e_d
    replace e_h := f_29 _ _ e_h
    replace e_ch := f_29 _ _ e_ch
    replace e_w0 := f_29 _ _ e_w0
    walk_at "r"
    refine ⟨sz (by simp), fun x2 hx2 => ?_⟩
    have s_30 := s_29.new (o := .lst [.int wr]) hx2
    have f_30 := (Stp.new (S := S0) (o := .lst [.int wr]) s_29.1 hx2).ff
    have e_x2 : upd F_29 x2 (.lst [.int wr]) x2 = some (.lst [.int wr]) := upd_same
    have E_30 := E_29.trans f_30
    generalize upd F_29 x2 (.lst [.int wr]) = F_30 at s_30 f_30 e_x2 E_30
    generalize upd H_29 x2 (.lst [.int wr]) = H_30 at s_30 ⊢
    replace e_qa := f_30 _ _ e_qa
    replace e_tp := f_30 _ _ e_tp
    replace e_c := f_30 _ _ e_c
    replace e_t1 := f_30 _ _ e_t1
    replace e_p1 := f_30 _ _ e_p1
    replace e_p2 := f_30 _ _ e_p2
    replace e_d := f_30 _ _ e_d
    replace e_h := f_30 _ _ e_h
    replace e_ch := f_30 _ _ e_ch
    replace e_w0 := f_30 _ _ e_w0
    replace e_x1 := f_30 _ _ e_x1
    walk_at "r"
    refine ⟨_, _, _, _, rfl, rfl, (s_30.1 _ _ e_x1), (s_30.1 _ _ e_x2), sz (by rw [List.length_map, List.length_take, List.length_singleton]; omega), fun x3 hx3 => ?_⟩
    have s_31 := s_30.new (o := .lst ((bs.take an).map V.int ++ [.int wr])) hx3
    have f_31 := (Stp.new (S := S0) (o := .lst ((bs.take an).map V.int ++ [.int wr])) s_30.1 hx3).ff
    have e_x3 : upd F_30 x3 (.lst ((bs.take an).map V.int ++ [.int wr])) x3 = some (.lst ((bs.take an).map V.int ++ [.int wr])) := upd_same
    have E_31 := E_30.trans f_31
    generalize upd F_30 x3 (.lst ((bs.take an).map V.int ++ [.int wr])) = F_31 at s_31 f_31 e_x3 E_31
    generalize upd H_30 x3 (.lst ((bs.take an).map V.int ++ [.int wr])) = H_31 at s_31 ⊢
    replace e_qa := f_31 _ _ e_qa
    replace e_tp := f_31 _ _ e_tp
    replace e_c := f_31 _ _ e_c
    replace e_t1 := f_31 _ _ e_t1
    replace e_p1 := f_31 _ _ e_p1
    replace e_p2 := f_31 _ _ e_p2
    replace e_d := f_31 _ _ e_d
    replace e_h := f_31 _ _ e_h
    replace e_ch := f_31 _ _ e_ch
    replace e_w0 := f_31 _ _ e_w0
    replace e_x1 := f_31 _ _ e_x1
    replace e_x2 := f_31 _ _ e_x2
    walk_at "r"
    refine s_slL (SqL.of (s_31.1 _ _ e_qa)) fun x4 hx4 => ?_
    rw [cutV_from, ← List.map_drop]
    have s_32 := s_31.new (o := .lst ((bs.drop an).map V.int)) hx4
    have f_32 := (Stp.new (S := S0) (o := .lst ((bs.drop an).map V.int)) s_31.1 hx4).ff
    have e_x4 : upd F_31 x4 (.lst ((bs.drop an).map V.int)) x4 = some (.lst ((bs.drop an).map V.int)) := upd_same
    have E_32 := E_31.trans f_32
    generalize upd F_31 x4 (.lst ((bs.drop an).map V.int)) = F_32 at s_32 f_32 e_x4 E_32
    generalize upd H_31 x4 (.lst ((bs.drop an).map V.int)) = H_32 at s_32 ⊢
    replace e_qa := f_32 _ _ e_qa
    replace e_tp := f_32 _ _ e_tp
    replace e_c := f_32 _ _ e_c
    replace e_t1 := f_32 _ _ e_t1
    replace e_p1 := f_32 _ _ e_p1
    replace e_p2 := f_32 _ _ e_p2
    replace e_d := f_32 _ _ e_d
    replace e_h := f_32 _ _ e_h
    replace e_ch := f_32 _ _ e_ch
    replace e_w0 := f_32 _ _ e_w0
    replace e_x1 := f_32 _ _ e_x1
    replace e_x2 := f_32 _ _ e_x2
    replace e_x3 := f_32 _ _ e_x3
    walk_at "r"
    refine ⟨_, _, _, _, rfl, rfl, (s_32.1 _ _ e_x3), (s_32.1 _ _ e_x4), sz (by rw [List.length_append, List.length_map, List.length_map, List.length_take, List.length_drop, List.length_singleton]; omega), fun x5 hx5 => ?_⟩
    rw [show (bs.take an).map V.int ++ [.int wr] ++ (bs.drop an).map V.int = (bs.take an ++ [wr] ++ bs.drop an).map V.int by simp]
    have s_33 := s_32.new (o := .lst ((bs.take an ++ [wr] ++ bs.drop an).map V.int)) hx5
    have f_33 := (Stp.new (S := S0) (o := .lst ((bs.take an ++ [wr] ++ bs.drop an).map V.int)) s_32.1 hx5).ff
    have e_x5 : upd F_32 x5 (.lst ((bs.take an ++ [wr] ++ bs.drop an).map V.int)) x5 = some (.lst ((bs.take an ++ [wr] ++ bs.drop an).map V.int)) := upd_same
    have E_33 := E_32.trans f_33
    generalize upd F_32 x5 (.lst ((bs.take an ++ [wr] ++ bs.drop an).map V.int)) = F_33 at s_33 f_33 e_x5 E_33
    generalize upd H_32 x5 (.lst ((bs.take an ++ [wr] ++ bs.drop an).map V.int)) = H_33 at s_33 ⊢
    replace e_qa := f_33 _ _ e_qa
    replace e_tp := f_33 _ _ e_tp
    replace e_c := f_33 _ _ e_c
    replace e_t1 := f_33 _ _ e_t1
    replace e_p1 := f_33 _ _ e_p1
    replace e_p2 := f_33 _ _ e_p2
    replace e_d := f_33 _ _ e_d
    replace e_h := f_33 _ _ e_h
    replace e_ch := f_33 _ _ e_ch
    replace e_w0 := f_33 _ _ e_w0
    replace e_x1 := f_33 _ _ e_x1
    replace e_x2 := f_33 _ _ e_x2
    replace e_x3 := f_33 _ _ e_x3
    replace e_x4 := f_33 _ _ e_x4
    walk_at "r"
    refine ⟨rfl, x5, bs.take an ++ [wr] ++ bs.drop an, 9, "bits", rfl, (s_33.1 _ _ e_x5), by rw [List.length_append, List.length_append, List.length_take, List.length_drop, List.length_singleton]; omega, .inl ⟨?_, rfl⟩, ?_⟩
    · have : goodI wr = false := by
        simp at hwr
        rcases hwr with rfl | rfl | rfl <;> decide
      simp [this]
    walk_at "r"
    refine ifn (fun _ => ?_) (fun h => absurd rfl h)
    walk_at "r"
    refine ⟨sz (by simp), fun y1 hy1 => ?_⟩
    have s_34 := s_33.new (o := .lst [.int 0, .int 9, .int (-1)]) hy1
    have f_34 := (Stp.new (S := S0) (o := .lst [.int 0, .int 9, .int (-1)]) s_33.1 hy1).ff
    have e_y1 : upd F_33 y1 (.lst [.int 0, .int 9, .int (-1)]) y1 = some (.lst [.int 0, .int 9, .int (-1)]) := upd_same
    have E_34 := E_33.trans f_34
    generalize upd F_33 y1 (.lst [.int 0, .int 9, .int (-1)]) = F_34 at s_34 f_34 e_y1 E_34
    generalize upd H_33 y1 (.lst [.int 0, .int 9, .int (-1)]) = H_34 at s_34 ⊢
    replace e_qa := f_34 _ _ e_qa
    replace e_tp := f_34 _ _ e_tp
    replace e_c := f_34 _ _ e_c
    replace e_t1 := f_34 _ _ e_t1
    replace e_p1 := f_34 _ _ e_p1
    replace e_p2 := f_34 _ _ e_p2
    replace e_d := f_34 _ _ e_d
    replace e_h := f_34 _ _ e_h
    replace e_ch := f_34 _ _ e_ch
    replace e_w0 := f_34 _ _ e_w0
    replace e_x1 := f_34 _ _ e_x1
    replace e_x2 := f_34 _ _ e_x2
    replace e_x3 := f_34 _ _ e_x3
    replace e_x4 := f_34 _ _ e_x4
    replace e_x5 := f_34 _ _ e_x5
    walk_at "r"
    refine ⟨y1, rfl, ⟨_, SqL.of (s_34.1 _ _ e_y1)⟩, ?_⟩
    refine lcW (walk_list (xs := [.int 0, .int 9, .int (-1)])) S0 s_34.1 (fun _ z => z.elim) (fun F1 H1 st => st.same.seq (SqL.of (s_34.1 _ _ e_y1))) (fun i acc F1 H1 => acc = List.replicate i (V.str "outside")) (fun _ _ _ _ _ _ _ _ _ r => r) rfl ?_ ?_
    · rintro j x acc dd F1 H1 H2 hj ⟨rfl, hx⟩ hd nS st f0 e hl2 rr
      obtain ⟨m, rfl, hm⟩ : ∃ m : Int, x = .int m ∧ ¬ (1 ≤ m ∧ m ≤ 8) := by
        have := List.mem_of_getElem? hx
        simp at this
        rcases this with rfl | rfl | rfl
        · exact ⟨0, rfl, by decide⟩
        · exact ⟨9, rfl, by decide⟩
        · exact ⟨-1, rfl, by decide⟩
      walk_at "r"
      have hj3 : j < 3 := hj
      refine ⟨rfl, qa, bs, m, "outside", rfl, st.same _ _ (s_34.1 _ _ e_qa), by omega, .inr ⟨hgood, hm, rfl⟩, ?_⟩
      refine lc_end hd nS st f0 e hl2 (by omega) (.rfl' st.fh) ?_
      rw [rr, List.replicate_succ']
    · intro dd acc F0 F1 H1 st hd f0 ef st1 hl2 rr
      have hd1 : H1 dd = some (.lst (List.replicate 3 (V.str "outside"))) := by rw [ef] at st1; rw [st1.fh _ _ upd_same, rr]; rfl
      have s1' := s_34.st0 st
      walk_at "r"
      refine ⟨sz (by simp), fun z1 hz1 => ?_⟩
      have e2 : Same H1 (upd H1 z1 (.lst [.str "outside"])) := (Stp.new (S := S0) (Same.refl _) hz1).same
      have h2 : upd H1 z1 (.lst [.str "outside"]) z1 = some (.lst [.str "outside"]) := upd_same
      generalize upd H1 z1 (.lst [.str "outside"]) = H2' at e2 h2 ⊢
      walk_at "r"
      refine s_rep h2 (by decide) (by decide) fun z2 hz2 => ?_
      have e3 : Same H2' (upd H2' z2 (.lst (List.replicate (3 : Int).toNat (V.str "outside")))) := (Stp.new (S := S0) (Same.refl _) hz2).same
      refine s_neFl (vs := List.replicate 3 (V.str "outside")) (SqL.of (e3 _ _ (e2 _ _ hd1))) (SqL.of upd_same) (by decide +kernel) ?_
      walk_at "r"
      exact ⟨_, _, _, _, _, _, _, _, _, _, _, _, rfl, E_34.trans (s_34.1.trans (st.same.trans (e2.trans e3)))⟩
  · rintro σ H1 ⟨v1, v2, v3, v4, v5, v6, v7, v8, v9, v10, v11, v12, rfl, e1⟩
    walk_at "r"
    exact q _
end
theorem all_mk {l : PySem.W.OpenLaw} {w : World} {K : PySem.W.Frag} {h : Heap} {mg : Str → Option Value} {fa : Addr} (X : K.In h) (G : h.Ns mainGlobals mg) (hfa : mg "law" = some (.ref fa))
    {f0 : Addr} {od0 an0 : Option Addr} {sl0 : Array (Option Value)} {oc0 kV0 dc0 pm0 cd0 ct0 : Value}
    (a0 : PySem.W.nsIn K mainGlobals "is_bit" = some (some (.ref f0))) (l0 : K.lookup f0 = some ⟨oc0, od0, .func (PySem.W.fnOf "is_bit" "is_bit" (defArgs s_is_bit) (defBody s_is_bit) (defScope s_is_bit) .none kV0 dc0 pm0 an0 cd0 ct0), sl0⟩) (c0 : PySem.W.codeIn K cd0 "is_bit" = true) (k0 : PySem.W.keepIn K (.ref f0) = true)
    {f1 : Addr} {od1 an1 : Option Addr} {sl1 : Array (Option Value)} {oc1 kV1 dc1 pm1 cd1 ct1 : Value}
    (a1 : PySem.W.nsIn K mainGlobals "check_bits" = some (some (.ref f1))) (l1 : K.lookup f1 = some ⟨oc1, od1, .func (PySem.W.fnOf "check_bits" "check_bits" (defArgs s_check_bits) (defBody s_check_bits) (defScope s_check_bits) .none kV1 dc1 pm1 an1 cd1 ct1), sl1⟩) (c1 : PySem.W.codeIn K cd1 "check_bits" = true) (k1 : PySem.W.keepIn K (.ref f1) = true)
    {f2 : Addr} {od2 an2 : Option Addr} {sl2 : Array (Option Value)} {oc2 kV2 dc2 pm2 cd2 ct2 : Value}
    (a2 : PySem.W.nsIn K mainGlobals "number_of" = some (some (.ref f2))) (l2 : K.lookup f2 = some ⟨oc2, od2, .func (PySem.W.fnOf "number_of" "number_of" (defArgs s_number_of) (defBody s_number_of) (defScope s_number_of) .none kV2 dc2 pm2 an2 cd2 ct2), sl2⟩) (c2 : PySem.W.codeIn K cd2 "number_of" = true) (k2 : PySem.W.keepIn K (.ref f2) = true)
    {f3 : Addr} {od3 an3 : Option Addr} {sl3 : Array (Option Value)} {oc3 kV3 dc3 pm3 cd3 ct3 : Value}
    (a3 : PySem.W.nsIn K mainGlobals "fixed" = some (some (.ref f3))) (l3 : K.lookup f3 = some ⟨oc3, od3, .func (PySem.W.fnOf "fixed" "fixed" (defArgs s_fixed) (defBody s_fixed) (defScope s_fixed) .none kV3 dc3 pm3 an3 cd3 ct3), sl3⟩) (c3 : PySem.W.codeIn K cd3 "fixed" = true) (k3 : PySem.W.keepIn K (.ref f3) = true)
    {f4 : Addr} {od4 an4 : Option Addr} {sl4 : Array (Option Value)} {oc4 kV4 dc4 pm4 cd4 ct4 : Value}
    (a4 : PySem.W.nsIn K mainGlobals "count_bits" = some (some (.ref f4))) (l4 : K.lookup f4 = some ⟨oc4, od4, .func (PySem.W.fnOf "count_bits" "count_bits" (defArgs s_count_bits) (defBody s_count_bits) (defScope s_count_bits) .none kV4 dc4 pm4 an4 cd4 ct4), sl4⟩) (c4 : PySem.W.codeIn K cd4 "count_bits" = true) (k4 : PySem.W.keepIn K (.ref f4) = true)
    {f5 : Addr} {od5 an5 : Option Addr} {sl5 : Array (Option Value)} {oc5 kV5 dc5 pm5 cd5 ct5 : Value}
    (a5 : PySem.W.nsIn K mainGlobals "count_at" = some (some (.ref f5))) (l5 : K.lookup f5 = some ⟨oc5, od5, .func (PySem.W.fnOf "count_at" "count_at" (defArgs s_count_at) (defBody s_count_at) (defScope s_count_at) .none kV5 dc5 pm5 an5 cd5 ct5), sl5⟩) (c5 : PySem.W.codeIn K cd5 "count_at" = true) (k5 : PySem.W.keepIn K (.ref f5) = true)
    {f6 : Addr} {od6 an6 : Option Addr} {sl6 : Array (Option Value)} {oc6 kV6 dc6 pm6 cd6 ct6 : Value}
    (a6 : PySem.W.nsIn K mainGlobals "check_of" = some (some (.ref f6))) (l6 : K.lookup f6 = some ⟨oc6, od6, .func (PySem.W.fnOf "check_of" "check_of" (defArgs s_check_of) (defBody s_check_of) (defScope s_check_of) .none kV6 dc6 pm6 an6 cd6 ct6), sl6⟩) (c6 : PySem.W.codeIn K cd6 "check_of" = true) (k6 : PySem.W.keepIn K (.ref f6) = true)
    {f7 : Addr} {od7 an7 : Option Addr} {sl7 : Array (Option Value)} {oc7 kV7 dc7 pm7 cd7 ct7 : Value}
    (a7 : PySem.W.nsIn K mainGlobals "want_group" = some (some (.ref f7))) (l7 : K.lookup f7 = some ⟨oc7, od7, .func (PySem.W.fnOf "want_group" "want_group" (defArgs s_want_group) (defBody s_want_group) (defScope s_want_group) .none kV7 dc7 pm7 an7 cd7 ct7), sl7⟩) (c7 : PySem.W.codeIn K cd7 "want_group" = true) (k7 : PySem.W.keepIn K (.ref f7) = true)
    {f8 : Addr} {od8 an8 : Option Addr} {sl8 : Array (Option Value)} {oc8 kV8 dc8 pm8 cd8 ct8 : Value}
    (a8 : PySem.W.nsIn K mainGlobals "cut_up" = some (some (.ref f8))) (l8 : K.lookup f8 = some ⟨oc8, od8, .func (PySem.W.fnOf "cut_up" "cut_up" (defArgs s_cut_up) (defBody s_cut_up) (defScope s_cut_up) .none kV8 dc8 pm8 an8 cd8 ct8), sl8⟩) (c8 : PySem.W.codeIn K cd8 "cut_up" = true) (k8 : PySem.W.keepIn K (.ref f8) = true)
    {f9 : Addr} {od9 an9 : Option Addr} {sl9 : Array (Option Value)} {oc9 kV9 dc9 pm9 cd9 ct9 : Value}
    (a9 : PySem.W.nsIn K mainGlobals "sum_of" = some (some (.ref f9))) (l9 : K.lookup f9 = some ⟨oc9, od9, .func (PySem.W.fnOf "sum_of" "sum_of" (defArgs s_sum_of) (defBody s_sum_of) (defScope s_sum_of) .none kV9 dc9 pm9 an9 cd9 ct9), sl9⟩) (c9 : PySem.W.codeIn K cd9 "sum_of" = true) (k9 : PySem.W.keepIn K (.ref f9) = true)
    {f10 : Addr} {od10 an10 : Option Addr} {sl10 : Array (Option Value)} {oc10 kV10 dc10 pm10 cd10 ct10 : Value}
    (a10 : PySem.W.nsIn K mainGlobals "cell_of" = some (some (.ref f10))) (l10 : K.lookup f10 = some ⟨oc10, od10, .func (PySem.W.fnOf "cell_of" "cell_of" (defArgs s_cell_of) (defBody s_cell_of) (defScope s_cell_of) .none kV10 dc10 pm10 an10 cd10 ct10), sl10⟩) (c10 : PySem.W.codeIn K cd10 "cell_of" = true) (k10 : PySem.W.keepIn K (.ref f10) = true)
    {f11 : Addr} {od11 an11 : Option Addr} {sl11 : Array (Option Value)} {oc11 kV11 dc11 pm11 cd11 ct11 : Value}
    (a11 : PySem.W.nsIn K mainGlobals "protect" = some (some (.ref f11))) (l11 : K.lookup f11 = some ⟨oc11, od11, .func (PySem.W.fnOf "protect" "protect" (defArgs s_protect) (defBody s_protect) (defScope s_protect) .none kV11 dc11 pm11 an11 cd11 ct11), sl11⟩) (c11 : PySem.W.codeIn K cd11 "protect" = true) (k11 : PySem.W.keepIn K (.ref f11) = true)
    {f12 : Addr} {od12 an12 : Option Addr} {sl12 : Array (Option Value)} {oc12 kV12 dc12 pm12 cd12 ct12 : Value}
    (a12 : PySem.W.nsIn K mainGlobals "is_good" = some (some (.ref f12))) (l12 : K.lookup f12 = some ⟨oc12, od12, .func (PySem.W.fnOf "is_good" "is_good" (defArgs s_is_good) (defBody s_is_good) (defScope s_is_good) .none kV12 dc12 pm12 an12 cd12 ct12), sl12⟩) (c12 : PySem.W.codeIn K cd12 "is_good" = true) (k12 : PySem.W.keepIn K (.ref f12) = true)
    {f13 : Addr} {od13 an13 : Option Addr} {sl13 : Array (Option Value)} {oc13 kV13 dc13 pm13 cd13 ct13 : Value}
    (a13 : PySem.W.nsIn K mainGlobals "cells_of" = some (some (.ref f13))) (l13 : K.lookup f13 = some ⟨oc13, od13, .func (PySem.W.fnOf "cells_of" "cells_of" (defArgs s_cells_of) (defBody s_cells_of) (defScope s_cells_of) .none kV13 dc13 pm13 an13 cd13 ct13), sl13⟩) (c13 : PySem.W.codeIn K cd13 "cells_of" = true) (k13 : PySem.W.keepIn K (.ref f13) = true)
    {f14 : Addr} {od14 an14 : Option Addr} {sl14 : Array (Option Value)} {oc14 kV14 dc14 pm14 cd14 ct14 : Value}
    (a14 : PySem.W.nsIn K mainGlobals "opened_group" = some (some (.ref f14))) (l14 : K.lookup f14 = some ⟨oc14, od14, .func (PySem.W.fnOf "opened_group" "opened_group" (defArgs s_opened_group) (defBody s_opened_group) (defScope s_opened_group) .none kV14 dc14 pm14 an14 cd14 ct14), sl14⟩) (c14 : PySem.W.codeIn K cd14 "opened_group" = true) (k14 : PySem.W.keepIn K (.ref f14) = true)
    {f15 : Addr} {od15 an15 : Option Addr} {sl15 : Array (Option Value)} {oc15 kV15 dc15 pm15 cd15 ct15 : Value}
    (a15 : PySem.W.nsIn K mainGlobals "count_told" = some (some (.ref f15))) (l15 : K.lookup f15 = some ⟨oc15, od15, .func (PySem.W.fnOf "count_told" "count_told" (defArgs s_count_told) (defBody s_count_told) (defScope s_count_told) .none kV15 dc15 pm15 an15 cd15 ct15), sl15⟩) (c15 : PySem.W.codeIn K cd15 "count_told" = true) (k15 : PySem.W.keepIn K (.ref f15) = true)
    {f16 : Addr} {od16 an16 : Option Addr} {sl16 : Array (Option Value)} {oc16 kV16 dc16 pm16 cd16 ct16 : Value}
    (a16 : PySem.W.nsIn K mainGlobals "open_cells" = some (some (.ref f16))) (l16 : K.lookup f16 = some ⟨oc16, od16, .func (PySem.W.fnOf "open_cells" "open_cells" (defArgs s_open_cells) (defBody s_open_cells) (defScope s_open_cells) .none kV16 dc16 pm16 an16 cd16 ct16), sl16⟩) (c16 : PySem.W.codeIn K cd16 "open_cells" = true) (k16 : PySem.W.keepIn K (.ref f16) = true)
    {f17 : Addr} {od17 an17 : Option Addr} {sl17 : Array (Option Value)} {oc17 kV17 dc17 pm17 cd17 ct17 : Value}
    (a17 : PySem.W.nsIn K mainGlobals "_law_pool" = some (some (.ref f17))) (l17 : K.lookup f17 = some ⟨oc17, od17, .func (PySem.W.fnOf "_law_pool" "_law_pool" (defArgs s_law_pool) (defBody s_law_pool) (defScope s_law_pool) .none kV17 dc17 pm17 an17 cd17 ct17), sl17⟩) (c17 : PySem.W.codeIn K cd17 "_law_pool" = true) (k17 : PySem.W.keepIn K (.ref f17) = true)
    {f18 : Addr} {od18 an18 : Option Addr} {sl18 : Array (Option Value)} {oc18 kV18 dc18 pm18 cd18 ct18 : Value}
    (a18 : PySem.W.nsIn K mainGlobals "_law_take" = some (some (.ref f18))) (l18 : K.lookup f18 = some ⟨oc18, od18, .func (PySem.W.fnOf "_law_take" "_law_take" (defArgs s_law_take) (defBody s_law_take) (defScope s_law_take) .none kV18 dc18 pm18 an18 cd18 ct18), sl18⟩) (c18 : PySem.W.codeIn K cd18 "_law_take" = true) (k18 : PySem.W.keepIn K (.ref f18) = true)
    {f19 : Addr} {od19 an19 : Option Addr} {sl19 : Array (Option Value)} {oc19 kV19 dc19 pm19 cd19 ct19 : Value}
    (a19 : PySem.W.nsIn K mainGlobals "_law_one" = some (some (.ref f19))) (l19 : K.lookup f19 = some ⟨oc19, od19, .func (PySem.W.fnOf "_law_one" "_law_one" (defArgs s_law_one) (defBody s_law_one) (defScope s_law_one) .none kV19 dc19 pm19 an19 cd19 ct19), sl19⟩) (c19 : PySem.W.codeIn K cd19 "_law_one" = true) (k19 : PySem.W.keepIn K (.ref f19) = true)
    {f20 : Addr} {od20 an20 : Option Addr} {sl20 : Array (Option Value)} {oc20 kV20 dc20 pm20 cd20 ct20 : Value}
    (a20 : PySem.W.nsIn K mainGlobals "_law_count" = some (some (.ref f20))) (l20 : K.lookup f20 = some ⟨oc20, od20, .func (PySem.W.fnOf "_law_count" "_law_count" (defArgs s_law_count) (defBody s_law_count) (defScope s_law_count) .none kV20 dc20 pm20 an20 cd20 ct20), sl20⟩) (c20 : PySem.W.codeIn K cd20 "_law_count" = true) (k20 : PySem.W.keepIn K (.ref f20) = true)
    {f21 : Addr} {od21 an21 : Option Addr} {sl21 : Array (Option Value)} {oc21 kV21 dc21 pm21 cd21 ct21 : Value}
    (a21 : PySem.W.nsIn K mainGlobals "_law_check" = some (some (.ref f21))) (l21 : K.lookup f21 = some ⟨oc21, od21, .func (PySem.W.fnOf "_law_check" "_law_check" (defArgs s_law_check) (defBody s_law_check) (defScope s_law_check) .none kV21 dc21 pm21 an21 cd21 ct21), sl21⟩) (c21 : PySem.W.codeIn K cd21 "_law_check" = true) (k21 : PySem.W.keepIn K (.ref f21) = true)
    {f22 : Addr} {od22 an22 : Option Addr} {sl22 : Array (Option Value)} {oc22 kV22 dc22 pm22 cd22 ct22 : Value}
    (a22 : PySem.W.nsIn K mainGlobals "_law_sum" = some (some (.ref f22))) (l22 : K.lookup f22 = some ⟨oc22, od22, .func (PySem.W.fnOf "_law_sum" "_law_sum" (defArgs s_law_sum) (defBody s_law_sum) (defScope s_law_sum) .none kV22 dc22 pm22 an22 cd22 ct22), sl22⟩) (c22 : PySem.W.codeIn K cd22 "_law_sum" = true) (k22 : PySem.W.keepIn K (.ref f22) = true)
    {f23 : Addr} {od23 an23 : Option Addr} {sl23 : Array (Option Value)} {oc23 kV23 dc23 pm23 cd23 ct23 : Value}
    (a23 : PySem.W.nsIn K mainGlobals "_law_cells" = some (some (.ref f23))) (l23 : K.lookup f23 = some ⟨oc23, od23, .func (PySem.W.fnOf "_law_cells" "_law_cells" (defArgs s_law_cells) (defBody s_law_cells) (defScope s_law_cells) .none kV23 dc23 pm23 an23 cd23 ct23), sl23⟩) (c23 : PySem.W.codeIn K cd23 "_law_cells" = true) (k23 : PySem.W.keepIn K (.ref f23) = true)
    {f24 : Addr} {od24 an24 : Option Addr} {sl24 : Array (Option Value)} {oc24 kV24 dc24 pm24 cd24 ct24 : Value}
    (a24 : PySem.W.nsIn K mainGlobals "_law_loads" = some (some (.ref f24))) (l24 : K.lookup f24 = some ⟨oc24, od24, .func (PySem.W.fnOf "_law_loads" "_law_loads" (defArgs s_law_loads) (defBody s_law_loads) (defScope s_law_loads) .none kV24 dc24 pm24 an24 cd24 ct24), sl24⟩) (c24 : PySem.W.codeIn K cd24 "_law_loads" = true) (k24 : PySem.W.keepIn K (.ref f24) = true)
    {f25 : Addr} {od25 an25 : Option Addr} {sl25 : Array (Option Value)} {oc25 kV25 dc25 pm25 cd25 ct25 : Value}
    (a25 : PySem.W.nsIn K mainGlobals "_law_joined" = some (some (.ref f25))) (l25 : K.lookup f25 = some ⟨oc25, od25, .func (PySem.W.fnOf "_law_joined" "_law_joined" (defArgs s_law_joined) (defBody s_law_joined) (defScope s_law_joined) .none kV25 dc25 pm25 an25 cd25 ct25), sl25⟩) (c25 : PySem.W.codeIn K cd25 "_law_joined" = true) (k25 : PySem.W.keepIn K (.ref f25) = true)
    {f26 : Addr} {od26 an26 : Option Addr} {sl26 : Array (Option Value)} {oc26 kV26 dc26 pm26 cd26 ct26 : Value}
    (a26 : PySem.W.nsIn K mainGlobals "_law_bits" = some (some (.ref f26))) (l26 : K.lookup f26 = some ⟨oc26, od26, .func (PySem.W.fnOf "_law_bits" "_law_bits" (defArgs s_law_bits) (defBody s_law_bits) (defScope s_law_bits) .none kV26 dc26 pm26 an26 cd26 ct26), sl26⟩) (c26 : PySem.W.codeIn K cd26 "_law_bits" = true) (k26 : PySem.W.keepIn K (.ref f26) = true)
    {f27 : Addr} {od27 an27 : Option Addr} {sl27 : Array (Option Value)} {oc27 kV27 dc27 pm27 cd27 ct27 : Value}
    (a27 : PySem.W.nsIn K mainGlobals "_law_heard" = some (some (.ref f27))) (l27 : K.lookup f27 = some ⟨oc27, od27, .func (PySem.W.fnOf "_law_heard" "_law_heard" (defArgs s_law_heard) (defBody s_law_heard) (defScope s_law_heard) .none kV27 dc27 pm27 an27 cd27 ct27), sl27⟩) (c27 : PySem.W.codeIn K cd27 "_law_heard" = true) (k27 : PySem.W.keepIn K (.ref f27) = true)
    {f28 : Addr} {od28 an28 : Option Addr} {sl28 : Array (Option Value)} {oc28 kV28 dc28 pm28 cd28 ct28 : Value}
    (a28 : PySem.W.nsIn K mainGlobals "_law_is_plain" = some (some (.ref f28))) (l28 : K.lookup f28 = some ⟨oc28, od28, .func (PySem.W.fnOf "_law_is_plain" "_law_is_plain" (defArgs s_law_is_plain) (defBody s_law_is_plain) (defScope s_law_is_plain) .none kV28 dc28 pm28 an28 cd28 ct28), sl28⟩) (c28 : PySem.W.codeIn K cd28 "_law_is_plain" = true) (k28 : PySem.W.keepIn K (.ref f28) = true)
    {f29 : Addr} {od29 an29 : Option Addr} {sl29 : Array (Option Value)} {oc29 kV29 dc29 pm29 cd29 ct29 : Value}
    (a29 : PySem.W.nsIn K mainGlobals "law" = some (some (.ref f29))) (l29 : K.lookup f29 = some ⟨oc29, od29, .func (PySem.W.fnOf "law" "law" (defArgs s_law) (defBody s_law) (defScope s_law) .none kV29 dc29 pm29 an29 cd29 ct29), sl29⟩) (c29 : PySem.W.codeIn K cd29 "law" = true) (k29 : PySem.W.keepIn K (.ref f29) = true)
    (z_bool : PySem.W.nsIn K mainGlobals "bool" = some none)
    (z_divmod : PySem.W.nsIn K mainGlobals "divmod" = some none)
    (z_enumerate : PySem.W.nsIn K mainGlobals "enumerate" = some none)
    (z_int : PySem.W.nsIn K mainGlobals "int" = some none)
    (z_isinstance : PySem.W.nsIn K mainGlobals "isinstance" = some none)
    (z_len : PySem.W.nsIn K mainGlobals "len" = some none)
    (z_list : PySem.W.nsIn K mainGlobals "list" = some none)
    (z_max : PySem.W.nsIn K mainGlobals "max" = some none)
    (z_min : PySem.W.nsIn K mainGlobals "min" = some none)
    (z_range : PySem.W.nsIn K mainGlobals "range" = some none)
    (z_sum : PySem.W.nsIn K mainGlobals "sum" = some none)
    (z_zip : PySem.W.nsIn K mainGlobals "zip" = some none)
    {t_CELL_SIZE : Tok} (e_CELL_SIZE : PySem.W.nsIn K mainGlobals "CELL_SIZE" = some (some (.int (56) t_CELL_SIZE)))
    {t_CHECK_SIZE : Tok} (e_CHECK_SIZE : PySem.W.nsIn K mainGlobals "CHECK_SIZE" = some (some (.int (8) t_CHECK_SIZE)))
    {t_HIGHEST : Tok} (e_HIGHEST : PySem.W.nsIn K mainGlobals "HIGHEST" = some (some (.int (128) t_HIGHEST)))
    {t_LOAD_SIZE : Tok} (e_LOAD_SIZE : PySem.W.nsIn K mainGlobals "LOAD_SIZE" = some (some (.int (48) t_LOAD_SIZE)))
    {t_MOST_BITS : Tok} (e_MOST_BITS : PySem.W.nsIn K mainGlobals "MOST_BITS" = some (some (.int (1000000) t_MOST_BITS)))
    {t_MOST_COUNT : Tok} (e_MOST_COUNT : PySem.W.nsIn K mainGlobals "MOST_COUNT" = some (some (.int (2199023255550) t_MOST_COUNT)))
    {t_MOST_GROUP : Tok} (e_MOST_GROUP : PySem.W.nsIn K mainGlobals "MOST_GROUP" = some (some (.int (8) t_MOST_GROUP)))
    {t_MOST_ZEROS : Tok} (e_MOST_ZEROS : PySem.W.nsIn K mainGlobals "MOST_ZEROS" = some (some (.int (40) t_MOST_ZEROS)))
    {t_STATES : Tok} (e_STATES : PySem.W.nsIn K mainGlobals "STATES" = some (some (.int (256) t_STATES)))
    {t_TURN : Tok} (e_TURN : PySem.W.nsIn K mainGlobals "TURN" = some (some (.int (7) t_TURN)))
    {C_BadBits : Addr} (g_BadBits : PySem.W.nsIn K mainGlobals "BadBits" = some (some (.ref C_BadBits))) (x0_BadBits : PySem.W.excIn K C_BadBits [.type "ValueError", .type "Exception", .type "BaseException", .type "object"] "ValueError.__new__" = true)
    (x1_BadBits : PySem.W.keepIn K (.ref C_BadBits) = true) (x2_BadBits : PySem.W.subIn K (.ref C_BadBits) (.type "BaseException") = some true) (x3_BadBits : PySem.W.typeIn K (.ref C_BadBits) = some (.type "type"))
    (x4_BadBits : PySem.W.findIn K (.ref C_BadBits) "__getattribute__" = some (some (.builtin "BaseException.__getattribute__"))) (x5_BadBits : PySem.W.findIn K (.ref C_BadBits) "__getattr__" = some none) (x6_BadBits : PySem.W.hasDictIn K C_BadBits = true)
    (x7_BadBits : PySem.W.findIn K (.ref C_BadBits) "__class__" = some (some (.builtin "object.__class__"))) (x8_BadBits : PySem.W.specialIn K (.builtin "object.__class__") "__get__" = some (some (.builtin "getset_descriptor.__get__"))) (x9_BadBits : PySem.W.takesIn K (.builtin "object.__class__") = some true) (xa_BadBits : PySem.W.mroIn K C_BadBits (.type "object") = some true)
    {C_BadCells : Addr} (g_BadCells : PySem.W.nsIn K mainGlobals "BadCells" = some (some (.ref C_BadCells))) (x0_BadCells : PySem.W.excIn K C_BadCells [.type "ValueError", .type "Exception", .type "BaseException", .type "object"] "ValueError.__new__" = true)
    (x1_BadCells : PySem.W.keepIn K (.ref C_BadCells) = true) (x2_BadCells : PySem.W.subIn K (.ref C_BadCells) (.type "BaseException") = some true) (x3_BadCells : PySem.W.typeIn K (.ref C_BadCells) = some (.type "type"))
    (x4_BadCells : PySem.W.findIn K (.ref C_BadCells) "__getattribute__" = some (some (.builtin "BaseException.__getattribute__"))) (x5_BadCells : PySem.W.findIn K (.ref C_BadCells) "__getattr__" = some none) (x6_BadCells : PySem.W.hasDictIn K C_BadCells = true)
    (x7_BadCells : PySem.W.findIn K (.ref C_BadCells) "__class__" = some (some (.builtin "object.__class__"))) (x8_BadCells : PySem.W.specialIn K (.builtin "object.__class__") "__get__" = some (some (.builtin "getset_descriptor.__get__"))) (x9_BadCells : PySem.W.takesIn K (.builtin "object.__class__") = some true) (xa_BadCells : PySem.W.mroIn K C_BadCells (.type "object") = some true)
    {C_Great : Addr} (g_Great : PySem.W.nsIn K mainGlobals "Great" = some (some (.ref C_Great))) (x0_Great : PySem.W.excIn K C_Great [.type "ValueError", .type "Exception", .type "BaseException", .type "object"] "ValueError.__new__" = true)
    (x1_Great : PySem.W.keepIn K (.ref C_Great) = true) (x2_Great : PySem.W.subIn K (.ref C_Great) (.type "BaseException") = some true) (x3_Great : PySem.W.typeIn K (.ref C_Great) = some (.type "type"))
    (x4_Great : PySem.W.findIn K (.ref C_Great) "__getattribute__" = some (some (.builtin "BaseException.__getattribute__"))) (x5_Great : PySem.W.findIn K (.ref C_Great) "__getattr__" = some none) (x6_Great : PySem.W.hasDictIn K C_Great = true)
    (x7_Great : PySem.W.findIn K (.ref C_Great) "__class__" = some (some (.builtin "object.__class__"))) (x8_Great : PySem.W.specialIn K (.builtin "object.__class__") "__get__" = some (some (.builtin "getset_descriptor.__get__"))) (x9_Great : PySem.W.takesIn K (.builtin "object.__class__") = some true) (xa_Great : PySem.W.mroIn K C_Great (.type "object") = some true)
    {C_NarrowError : Addr} (g_NarrowError : PySem.W.nsIn K mainGlobals "NarrowError" = some (some (.ref C_NarrowError))) (x0_NarrowError : PySem.W.excIn K C_NarrowError [.type "ValueError", .type "Exception", .type "BaseException", .type "object"] "ValueError.__new__" = true)
    (x1_NarrowError : PySem.W.keepIn K (.ref C_NarrowError) = true) (x2_NarrowError : PySem.W.subIn K (.ref C_NarrowError) (.type "BaseException") = some true) (x3_NarrowError : PySem.W.typeIn K (.ref C_NarrowError) = some (.type "type"))
    (x4_NarrowError : PySem.W.findIn K (.ref C_NarrowError) "__getattribute__" = some (some (.builtin "BaseException.__getattribute__"))) (x5_NarrowError : PySem.W.findIn K (.ref C_NarrowError) "__getattr__" = some none) (x6_NarrowError : PySem.W.hasDictIn K C_NarrowError = true)
    (x7_NarrowError : PySem.W.findIn K (.ref C_NarrowError) "__class__" = some (some (.builtin "object.__class__"))) (x8_NarrowError : PySem.W.specialIn K (.builtin "object.__class__") "__get__" = some (some (.builtin "getset_descriptor.__get__"))) (x9_NarrowError : PySem.W.takesIn K (.builtin "object.__class__") = some true) (xa_NarrowError : PySem.W.mroIn K C_NarrowError (.type "object") = some true)
    {C_Outside : Addr} (g_Outside : PySem.W.nsIn K mainGlobals "Outside" = some (some (.ref C_Outside))) (x0_Outside : PySem.W.excIn K C_Outside [.type "ValueError", .type "Exception", .type "BaseException", .type "object"] "ValueError.__new__" = true)
    (x1_Outside : PySem.W.keepIn K (.ref C_Outside) = true) (x2_Outside : PySem.W.subIn K (.ref C_Outside) (.type "BaseException") = some true) (x3_Outside : PySem.W.typeIn K (.ref C_Outside) = some (.type "type"))
    (x4_Outside : PySem.W.findIn K (.ref C_Outside) "__getattribute__" = some (some (.builtin "BaseException.__getattribute__"))) (x5_Outside : PySem.W.findIn K (.ref C_Outside) "__getattr__" = some none) (x6_Outside : PySem.W.hasDictIn K C_Outside = true)
    (x7_Outside : PySem.W.findIn K (.ref C_Outside) "__class__" = some (some (.builtin "object.__class__"))) (x8_Outside : PySem.W.specialIn K (.builtin "object.__class__") "__get__" = some (some (.builtin "getset_descriptor.__get__"))) (x9_Outside : PySem.W.takesIn K (.builtin "object.__class__") = some true) (xa_Outside : PySem.W.mroIn K C_Outside (.type "object") = some true)
    (s_BadBits_BadBits : PySem.W.subIn K (.ref C_BadBits) (.ref C_BadBits) = some true)
    (s_BadBits_BadCells : PySem.W.subIn K (.ref C_BadBits) (.ref C_BadCells) = some false)
    (s_BadBits_Great : PySem.W.subIn K (.ref C_BadBits) (.ref C_Great) = some false)
    (s_BadBits_NarrowError : PySem.W.subIn K (.ref C_BadBits) (.ref C_NarrowError) = some true)
    (s_BadBits_Outside : PySem.W.subIn K (.ref C_BadBits) (.ref C_Outside) = some false)
    (s_BadCells_BadBits : PySem.W.subIn K (.ref C_BadCells) (.ref C_BadBits) = some false)
    (s_BadCells_BadCells : PySem.W.subIn K (.ref C_BadCells) (.ref C_BadCells) = some true)
    (s_BadCells_Great : PySem.W.subIn K (.ref C_BadCells) (.ref C_Great) = some false)
    (s_BadCells_NarrowError : PySem.W.subIn K (.ref C_BadCells) (.ref C_NarrowError) = some true)
    (s_BadCells_Outside : PySem.W.subIn K (.ref C_BadCells) (.ref C_Outside) = some false)
    (s_Great_BadBits : PySem.W.subIn K (.ref C_Great) (.ref C_BadBits) = some false)
    (s_Great_BadCells : PySem.W.subIn K (.ref C_Great) (.ref C_BadCells) = some false)
    (s_Great_Great : PySem.W.subIn K (.ref C_Great) (.ref C_Great) = some true)
    (s_Great_NarrowError : PySem.W.subIn K (.ref C_Great) (.ref C_NarrowError) = some true)
    (s_Great_Outside : PySem.W.subIn K (.ref C_Great) (.ref C_Outside) = some false)
    (s_NarrowError_BadBits : PySem.W.subIn K (.ref C_NarrowError) (.ref C_BadBits) = some false)
    (s_NarrowError_BadCells : PySem.W.subIn K (.ref C_NarrowError) (.ref C_BadCells) = some false)
    (s_NarrowError_Great : PySem.W.subIn K (.ref C_NarrowError) (.ref C_Great) = some false)
    (s_NarrowError_NarrowError : PySem.W.subIn K (.ref C_NarrowError) (.ref C_NarrowError) = some true)
    (s_NarrowError_Outside : PySem.W.subIn K (.ref C_NarrowError) (.ref C_Outside) = some false)
    (s_Outside_BadBits : PySem.W.subIn K (.ref C_Outside) (.ref C_BadBits) = some false)
    (s_Outside_BadCells : PySem.W.subIn K (.ref C_Outside) (.ref C_BadCells) = some false)
    (s_Outside_Great : PySem.W.subIn K (.ref C_Outside) (.ref C_Great) = some false)
    (s_Outside_NarrowError : PySem.W.subIn K (.ref C_Outside) (.ref C_NarrowError) = some true)
    (s_Outside_Outside : PySem.W.subIn K (.ref C_Outside) (.ref C_Outside) = some true)
    : ∃ fd : FuncData, (∀ (s : Shared) (v : Value), BindsTo s fd ⟨[v], []⟩ [("_law_script", v)]) ∧ ∀ base : Heap, K.In base → base.Ns mainGlobals mg → FnOk l.prog w K mg base (L2.CX l.prog w) 6 fa fd ["_law_script"] (sp_law K mg) := by
  have e := hfa.symm.trans (PySem.W.mg_of X G a29)
  cases e
  have e_BadBits := exA_of (PySem.W.mg_of X G g_BadBits)
  have e_BadCells := exA_of (PySem.W.mg_of X G g_BadCells)
  have e_Great := exA_of (PySem.W.mg_of X G g_Great)
  have e_NarrowError := exA_of (PySem.W.mg_of X G g_NarrowError)
  have e_Outside := exA_of (PySem.W.mg_of X G g_Outside)
  have Z : Zs K mg := ⟨PySem.W.mg_none_of X G z_bool, PySem.W.mg_none_of X G z_divmod, PySem.W.mg_none_of X G z_enumerate, PySem.W.mg_none_of X G z_int, PySem.W.mg_none_of X G z_isinstance, PySem.W.mg_none_of X G z_len, PySem.W.mg_none_of X G z_list, PySem.W.mg_none_of X G z_max, PySem.W.mg_none_of X G z_min, PySem.W.mg_none_of X G z_range, PySem.W.mg_none_of X G z_sum, PySem.W.mg_none_of X G z_zip, ⟨_, PySem.W.mg_of X G e_CELL_SIZE⟩, ⟨_, PySem.W.mg_of X G e_CHECK_SIZE⟩, ⟨_, PySem.W.mg_of X G e_HIGHEST⟩, ⟨_, PySem.W.mg_of X G e_LOAD_SIZE⟩, ⟨_, PySem.W.mg_of X G e_MOST_BITS⟩, ⟨_, PySem.W.mg_of X G e_MOST_COUNT⟩, ⟨_, PySem.W.mg_of X G e_MOST_GROUP⟩, ⟨_, PySem.W.mg_of X G e_MOST_ZEROS⟩, ⟨_, PySem.W.mg_of X G e_STATES⟩, ⟨_, PySem.W.mg_of X G e_TURN⟩, ExF.mk' (PySem.W.mg_of X G g_BadBits) x0_BadBits x1_BadBits x2_BadBits x3_BadBits x4_BadBits x5_BadBits x6_BadBits x7_BadBits x8_BadBits x9_BadBits xa_BadBits, ExF.mk' (PySem.W.mg_of X G g_BadCells) x0_BadCells x1_BadCells x2_BadCells x3_BadCells x4_BadCells x5_BadCells x6_BadCells x7_BadCells x8_BadCells x9_BadCells xa_BadCells, ExF.mk' (PySem.W.mg_of X G g_Great) x0_Great x1_Great x2_Great x3_Great x4_Great x5_Great x6_Great x7_Great x8_Great x9_Great xa_Great, ExF.mk' (PySem.W.mg_of X G g_NarrowError) x0_NarrowError x1_NarrowError x2_NarrowError x3_NarrowError x4_NarrowError x5_NarrowError x6_NarrowError x7_NarrowError x8_NarrowError x9_NarrowError xa_NarrowError, ExF.mk' (PySem.W.mg_of X G g_Outside) x0_Outside x1_Outside x2_Outside x3_Outside x4_Outside x5_Outside x6_Outside x7_Outside x8_Outside x9_Outside xa_Outside, (by rw [e_BadBits]; exact s_BadBits_BadBits), (by rw [e_BadBits]; exact kit_own x6_BadBits x3_BadBits s_BadBits_BadBits s_BadBits_BadBits), (by rw [e_BadBits, e_BadCells]; exact s_BadBits_BadCells), (by rw [e_BadBits, e_BadCells]; exact kit_own x6_BadCells x3_BadCells s_BadBits_BadCells s_BadBits_BadBits), (by rw [e_BadBits, e_Great]; exact s_BadBits_Great), (by rw [e_BadBits, e_Great]; exact kit_own x6_Great x3_Great s_BadBits_Great s_BadBits_BadBits), (by rw [e_BadBits, e_NarrowError]; exact s_BadBits_NarrowError), (by rw [e_BadBits, e_NarrowError]; exact kit_own x6_NarrowError x3_NarrowError s_BadBits_NarrowError s_BadBits_BadBits), (by rw [e_BadBits, e_Outside]; exact s_BadBits_Outside), (by rw [e_BadBits, e_Outside]; exact kit_own x6_Outside x3_Outside s_BadBits_Outside s_BadBits_BadBits), (by rw [e_BadCells, e_BadBits]; exact s_BadCells_BadBits), (by rw [e_BadCells, e_BadBits]; exact kit_own x6_BadBits x3_BadBits s_BadCells_BadBits s_BadCells_BadCells), (by rw [e_BadCells]; exact s_BadCells_BadCells), (by rw [e_BadCells]; exact kit_own x6_BadCells x3_BadCells s_BadCells_BadCells s_BadCells_BadCells), (by rw [e_BadCells, e_Great]; exact s_BadCells_Great), (by rw [e_BadCells, e_Great]; exact kit_own x6_Great x3_Great s_BadCells_Great s_BadCells_BadCells), (by rw [e_BadCells, e_NarrowError]; exact s_BadCells_NarrowError), (by rw [e_BadCells, e_NarrowError]; exact kit_own x6_NarrowError x3_NarrowError s_BadCells_NarrowError s_BadCells_BadCells), (by rw [e_BadCells, e_Outside]; exact s_BadCells_Outside), (by rw [e_BadCells, e_Outside]; exact kit_own x6_Outside x3_Outside s_BadCells_Outside s_BadCells_BadCells), (by rw [e_Great, e_BadBits]; exact s_Great_BadBits), (by rw [e_Great, e_BadBits]; exact kit_own x6_BadBits x3_BadBits s_Great_BadBits s_Great_Great), (by rw [e_Great, e_BadCells]; exact s_Great_BadCells), (by rw [e_Great, e_BadCells]; exact kit_own x6_BadCells x3_BadCells s_Great_BadCells s_Great_Great), (by rw [e_Great]; exact s_Great_Great), (by rw [e_Great]; exact kit_own x6_Great x3_Great s_Great_Great s_Great_Great), (by rw [e_Great, e_NarrowError]; exact s_Great_NarrowError), (by rw [e_Great, e_NarrowError]; exact kit_own x6_NarrowError x3_NarrowError s_Great_NarrowError s_Great_Great), (by rw [e_Great, e_Outside]; exact s_Great_Outside), (by rw [e_Great, e_Outside]; exact kit_own x6_Outside x3_Outside s_Great_Outside s_Great_Great), (by rw [e_NarrowError, e_BadBits]; exact s_NarrowError_BadBits), (by rw [e_NarrowError, e_BadBits]; exact kit_own x6_BadBits x3_BadBits s_NarrowError_BadBits s_NarrowError_NarrowError), (by rw [e_NarrowError, e_BadCells]; exact s_NarrowError_BadCells), (by rw [e_NarrowError, e_BadCells]; exact kit_own x6_BadCells x3_BadCells s_NarrowError_BadCells s_NarrowError_NarrowError), (by rw [e_NarrowError, e_Great]; exact s_NarrowError_Great), (by rw [e_NarrowError, e_Great]; exact kit_own x6_Great x3_Great s_NarrowError_Great s_NarrowError_NarrowError), (by rw [e_NarrowError]; exact s_NarrowError_NarrowError), (by rw [e_NarrowError]; exact kit_own x6_NarrowError x3_NarrowError s_NarrowError_NarrowError s_NarrowError_NarrowError), (by rw [e_NarrowError, e_Outside]; exact s_NarrowError_Outside), (by rw [e_NarrowError, e_Outside]; exact kit_own x6_Outside x3_Outside s_NarrowError_Outside s_NarrowError_NarrowError), (by rw [e_Outside, e_BadBits]; exact s_Outside_BadBits), (by rw [e_Outside, e_BadBits]; exact kit_own x6_BadBits x3_BadBits s_Outside_BadBits s_Outside_Outside), (by rw [e_Outside, e_BadCells]; exact s_Outside_BadCells), (by rw [e_Outside, e_BadCells]; exact kit_own x6_BadCells x3_BadCells s_Outside_BadCells s_Outside_Outside), (by rw [e_Outside, e_Great]; exact s_Outside_Great), (by rw [e_Outside, e_Great]; exact kit_own x6_Great x3_Great s_Outside_Great s_Outside_Outside), (by rw [e_Outside, e_NarrowError]; exact s_Outside_NarrowError), (by rw [e_Outside, e_NarrowError]; exact kit_own x6_NarrowError x3_NarrowError s_Outside_NarrowError s_Outside_Outside), (by rw [e_Outside]; exact s_Outside_Outside), (by rw [e_Outside]; exact kit_own x6_Outside x3_Outside s_Outside_Outside s_Outside_Outside)⟩
  have F0 := fun_mk (st := s_is_bit) l0 c0 k0
  have F1 := fun_mk (st := s_check_bits) l1 c1 k1
  have F2 := fun_mk (st := s_number_of) l2 c2 k2
  have F3 := fun_mk (st := s_fixed) l3 c3 k3
  have F4 := fun_mk (st := s_count_bits) l4 c4 k4
  have F5 := fun_mk (st := s_count_at) l5 c5 k5
  have F6 := fun_mk (st := s_check_of) l6 c6 k6
  have F7 := fun_mk (st := s_want_group) l7 c7 k7
  have F8 := fun_mk (st := s_cut_up) l8 c8 k8
  have F9 := fun_mk (st := s_sum_of) l9 c9 k9
  have F10 := fun_mk (st := s_cell_of) l10 c10 k10
  have F11 := fun_mk (st := s_protect) l11 c11 k11
  have F12 := fun_mk (st := s_is_good) l12 c12 k12
  have F13 := fun_mk (st := s_cells_of) l13 c13 k13
  have F14 := fun_mk (st := s_opened_group) l14 c14 k14
  have F15 := fun_mk (st := s_count_told) l15 c15 k15
  have F16 := fun_mk (st := s_open_cells) l16 c16 k16
  have F17 := fun_mk (st := s_law_pool) l17 c17 k17
  have F18 := fun_mk (st := s_law_take) l18 c18 k18
  have F19 := fun_mk (st := s_law_one) l19 c19 k19
  have F20 := fun_mk (st := s_law_count) l20 c20 k20
  have F21 := fun_mk (st := s_law_check) l21 c21 k21
  have F22 := fun_mk (st := s_law_sum) l22 c22 k22
  have F23 := fun_mk (st := s_law_cells) l23 c23 k23
  have F24 := fun_mk (st := s_law_loads) l24 c24 k24
  have F25 := fun_mk (st := s_law_joined) l25 c25 k25
  have F26 := fun_mk (st := s_law_bits) l26 c26 k26
  have F27 := fun_mk (st := s_law_heard) l27 c27 k27
  have F28 := fun_mk (st := s_law_is_plain) l28 c28 k28
  have F29 := fun_mk (st := s_law) l29 c29 k29
  refine ⟨PySem.W.fnOf "law" "law" (defArgs s_law) (defBody s_law) (defScope s_law) .none kV29 dc29 pm29 an29 cd29 ct29, fun s v => .of_eq rfl, fun base _ _ => ?_⟩
  have R_cut_up : Ok_cut_up l.prog w K mg base := ⟨_, _, okx_cut_up Z F8 (PySem.W.mg_of X G a8) ⟩
  have R_sum_of : Ok_sum_of l.prog w K mg base := ⟨_, _, okx_sum_of Z F9 (PySem.W.mg_of X G a9) ⟩
  have R_fixed : Ok_fixed l.prog w K mg base := ⟨_, _, okx_fixed Z F3 (PySem.W.mg_of X G a3) ⟩
  have R_check_of : Ok_check_of l.prog w K mg base := ⟨_, _, okx_check_of Z F6 (PySem.W.mg_of X G a6) R_fixed⟩
  have R_cell_of : Ok_cell_of l.prog w K mg base := ⟨_, _, okx_cell_of Z F10 (PySem.W.mg_of X G a10) R_check_of⟩
  have R_count_bits : Ok_count_bits l.prog w K mg base := ⟨_, _, okx_count_bits Z F4 (PySem.W.mg_of X G a4) R_fixed⟩
  have R_want_group : Ok_want_group l.prog w K mg base := ⟨_, _, okx_want_group Z F7 (PySem.W.mg_of X G a7) ⟩
  have R_is_bit : Ok_is_bit l.prog w K mg base := ⟨_, _, okx_is_bit Z F0 (PySem.W.mg_of X G a0) ⟩
  have R_check_bits : Ok_check_bits l.prog w K mg base := ⟨_, _, okx_check_bits Z F1 (PySem.W.mg_of X G a1) R_is_bit⟩
  have R_protect : Ok_protect l.prog w K mg base := ⟨_, _, okx_protect Z F11 (PySem.W.mg_of X G a11) R_cut_up R_sum_of R_cell_of R_count_bits R_want_group R_check_bits⟩
  have R_law_heard : Ok_law_heard l.prog w K mg base := ⟨_, _, okx_law_heard Z F27 (PySem.W.mg_of X G a27) R_protect⟩
  have R_law_take : Ok_law_take l.prog w K mg base := ⟨_, _, okx_law_take Z F18 (PySem.W.mg_of X G a18) ⟩
  have R_law_one : Ok_law_one l.prog w K mg base := ⟨_, _, okx_law_one Z F19 (PySem.W.mg_of X G a19) R_law_take⟩
  have R_number_of : Ok_number_of l.prog w K mg base := ⟨_, _, okx_number_of Z F2 (PySem.W.mg_of X G a2) ⟩
  have R_count_at : Ok_count_at l.prog w K mg base := ⟨_, _, okx_count_at Z F5 (PySem.W.mg_of X G a5) R_number_of⟩
  have R_count_told : Ok_count_told l.prog w K mg base := ⟨_, _, okx_count_told Z F15 (PySem.W.mg_of X G a15) R_count_at⟩
  have R_cells_of : Ok_cells_of l.prog w K mg base := ⟨_, _, okx_cells_of Z F13 (PySem.W.mg_of X G a13) R_cut_up R_want_group R_check_bits⟩
  have R_is_good : Ok_is_good l.prog w K mg base := ⟨_, _, okx_is_good Z F12 (PySem.W.mg_of X G a12) R_check_of⟩
  have R_opened_group : Ok_opened_group l.prog w K mg base := ⟨_, _, okx_opened_group Z F14 (PySem.W.mg_of X G a14) R_sum_of R_is_good⟩
  have R_open_cells : Ok_open_cells l.prog w K mg base := ⟨_, _, okx_open_cells Z F16 (PySem.W.mg_of X G a16) R_count_told R_cut_up R_cells_of R_opened_group⟩
  have R_law_is_plain : Ok_law_is_plain l.prog w K mg base := ⟨_, _, okx_law_is_plain Z F28 (PySem.W.mg_of X G a28) ⟩
  have R_law_joined : Ok_law_joined l.prog w K mg base := ⟨_, _, okx_law_joined Z F25 (PySem.W.mg_of X G a25) ⟩
  have R_law_sum : Ok_law_sum l.prog w K mg base := ⟨_, _, okx_law_sum Z F22 (PySem.W.mg_of X G a22) ⟩
  have R_law_check : Ok_law_check l.prog w K mg base := ⟨_, _, okx_law_check Z F21 (PySem.W.mg_of X G a21) ⟩
  have R_law_cells : Ok_law_cells l.prog w K mg base := ⟨_, _, okx_law_cells Z F23 (PySem.W.mg_of X G a23) R_law_sum R_law_check⟩
  have R_law_loads : Ok_law_loads l.prog w K mg base := ⟨_, _, okx_law_loads Z F24 (PySem.W.mg_of X G a24) ⟩
  have R_law_count : Ok_law_count l.prog w K mg base := ⟨_, _, okx_law_count Z F20 (PySem.W.mg_of X G a20) ⟩
  have R_law_bits : Ok_law_bits l.prog w K mg base := ⟨_, _, okx_law_bits Z F26 (PySem.W.mg_of X G a26) R_law_take R_law_count⟩
  have R_law_pool : Ok_law_pool l.prog w K mg base := ⟨_, _, okx_law_pool Z F17 (PySem.W.mg_of X G a17) ⟩
  exact (okx_law (P := l.prog) (w := w) (base := base) Z F29 (PySem.W.mg_of X G a29) R_law_heard R_law_take R_law_one R_open_cells R_law_is_plain R_protect R_law_joined R_law_cells R_law_loads R_law_count R_law_bits R_law_pool).G
theorem walk {l : PySem.W.OpenLaw} {q : Program} {loose : List Str} {XP : (Str → Option Value) → Heap → Prop} {YP : World → Heap → Prop} {d : DefRec} {K : Params → PySem.W.Frag} (hn : l.most = some 63) (hdf : d.params.defaults = [])
    (hY : ∀ (w : World) (h : Heap), YP w h → (K w.params).In h)
    (F : ∀ (w : World) (mg : Str → Option Value) (fa : Addr) (h : Heap), (K w.params).In h → h.Ns mainGlobals mg → mg d.name = some (.ref fa) →
      ∃ fd : FuncData, (∀ (s : Shared) (u : Value), BindsTo s fd ⟨[u], []⟩ [("_law_script", u)]) ∧ ∀ base : Heap, (K w.params).In base → base.Ns mainGlobals mg → FnOk l.prog w (K w.params) mg base (L2.CX l.prog w) 6 fa fd ["_law_script"] (sp_law (K w.params) mg)) :
    PySem.W.WalkO q loose XP YP l.row.toRowW d [] (fun f vs => PySem.call f vs) :=
  L2.walk_of (n := 63) (k := 6) (x := "_law_script") (CX := fun w => L2.CX l.prog w) (sp := fun w => sp_lawK (K w.params)) hn (by decide) hdf ⟨rfl, by decide, by decide⟩ hY F (fun _ _ _ ns hl _ hS => law_start hl hS) fun _ _ _ _ _ z => cx_none z
end NB
open PySem PySem.W PyProof.Rows in
set_option maxRecDepth 100000 in
set_option maxHeartbeats 0 in
theorem PySem.Challenge.cw_narrowingbits_k60_cells_laid_out_holds : PySem.Challenge.rw_narrowingbits_k60_cells_laid_out.Holds := by
  w_on; o_law; k_head; (case hw => w_witness2)
  k_fill
  refine NB.walk (l := PySem.Challenge.rw_narrowingbits_k60_cells_laid_out) rfl rfl (fun w h Y => PySem.W.kIn_of Y) ?F
  case F =>
    intro w mg fa h KX G hmg
    refine' NB.all_mk KX G hmg ?a0 ?l0 ?c0 ?k0 ?a1 ?l1 ?c1 ?k1 ?a2 ?l2 ?c2 ?k2 ?a3 ?l3 ?c3 ?k3 ?a4 ?l4 ?c4 ?k4 ?a5 ?l5 ?c5 ?k5 ?a6 ?l6 ?c6 ?k6 ?a7 ?l7 ?c7 ?k7 ?a8 ?l8 ?c8 ?k8 ?a9 ?l9 ?c9 ?k9 ?a10 ?l10 ?c10 ?k10 ?a11 ?l11 ?c11 ?k11 ?a12 ?l12 ?c12 ?k12 ?a13 ?l13 ?c13 ?k13 ?a14 ?l14 ?c14 ?k14 ?a15 ?l15 ?c15 ?k15 ?a16 ?l16 ?c16 ?k16 ?a17 ?l17 ?c17 ?k17 ?a18 ?l18 ?c18 ?k18 ?a19 ?l19 ?c19 ?k19 ?a20 ?l20 ?c20 ?k20 ?a21 ?l21 ?c21 ?k21 ?a22 ?l22 ?c22 ?k22 ?a23 ?l23 ?c23 ?k23 ?a24 ?l24 ?c24 ?k24 ?a25 ?l25 ?c25 ?k25 ?a26 ?l26 ?c26 ?k26 ?a27 ?l27 ?c27 ?k27 ?a28 ?l28 ?c28 ?k28 ?a29 ?l29 ?c29 ?k29 ?z_bool ?z_divmod ?z_enumerate ?z_int ?z_isinstance ?z_len ?z_list ?z_max ?z_min ?z_range ?z_sum ?z_zip ?e_CELL_SIZE ?e_CHECK_SIZE ?e_HIGHEST ?e_LOAD_SIZE ?e_MOST_BITS ?e_MOST_COUNT ?e_MOST_GROUP ?e_MOST_ZEROS ?e_STATES ?e_TURN ?g_BadBits ?x0_BadBits ?x1_BadBits ?x2_BadBits ?x3_BadBits ?x4_BadBits ?x5_BadBits ?x6_BadBits ?x7_BadBits ?x8_BadBits ?x9_BadBits ?xa_BadBits ?g_BadCells ?x0_BadCells ?x1_BadCells ?x2_BadCells ?x3_BadCells ?x4_BadCells ?x5_BadCells ?x6_BadCells ?x7_BadCells ?x8_BadCells ?x9_BadCells ?xa_BadCells ?g_Great ?x0_Great ?x1_Great ?x2_Great ?x3_Great ?x4_Great ?x5_Great ?x6_Great ?x7_Great ?x8_Great ?x9_Great ?xa_Great ?g_NarrowError ?x0_NarrowError ?x1_NarrowError ?x2_NarrowError ?x3_NarrowError ?x4_NarrowError ?x5_NarrowError ?x6_NarrowError ?x7_NarrowError ?x8_NarrowError ?x9_NarrowError ?xa_NarrowError ?g_Outside ?x0_Outside ?x1_Outside ?x2_Outside ?x3_Outside ?x4_Outside ?x5_Outside ?x6_Outside ?x7_Outside ?x8_Outside ?x9_Outside ?xa_Outside ?s_BadBits_BadBits ?s_BadBits_BadCells ?s_BadBits_Great ?s_BadBits_NarrowError ?s_BadBits_Outside ?s_BadCells_BadBits ?s_BadCells_BadCells ?s_BadCells_Great ?s_BadCells_NarrowError ?s_BadCells_Outside ?s_Great_BadBits ?s_Great_BadCells ?s_Great_Great ?s_Great_NarrowError ?s_Great_Outside ?s_NarrowError_BadBits ?s_NarrowError_BadCells ?s_NarrowError_Great ?s_NarrowError_NarrowError ?s_NarrowError_Outside ?s_Outside_BadBits ?s_Outside_BadCells ?s_Outside_Great ?s_Outside_NarrowError ?s_Outside_Outside
    (case a0 => k_is)
    (case l0 => k_is)
    (case c0 => k_is)
    (case k0 => k_is)
    (case a1 => k_is)
    (case l1 => k_is)
    (case c1 => k_is)
    (case k1 => k_is)
    (case a2 => k_is)
    (case l2 => k_is)
    (case c2 => k_is)
    (case k2 => k_is)
    (case a3 => k_is)
    (case l3 => k_is)
    (case c3 => k_is)
    (case k3 => k_is)
    (case a4 => k_is)
    (case l4 => k_is)
    (case c4 => k_is)
    (case k4 => k_is)
    (case a5 => k_is)
    (case l5 => k_is)
    (case c5 => k_is)
    (case k5 => k_is)
    (case a6 => k_is)
    (case l6 => k_is)
    (case c6 => k_is)
    (case k6 => k_is)
    (case a7 => k_is)
    (case l7 => k_is)
    (case c7 => k_is)
    (case k7 => k_is)
    (case a8 => k_is)
    (case l8 => k_is)
    (case c8 => k_is)
    (case k8 => k_is)
    (case a9 => k_is)
    (case l9 => k_is)
    (case c9 => k_is)
    (case k9 => k_is)
    (case a10 => k_is)
    (case l10 => k_is)
    (case c10 => k_is)
    (case k10 => k_is)
    (case a11 => k_is)
    (case l11 => k_is)
    (case c11 => k_is)
    (case k11 => k_is)
    (case a12 => k_is)
    (case l12 => k_is)
    (case c12 => k_is)
    (case k12 => k_is)
    (case a13 => k_is)
    (case l13 => k_is)
    (case c13 => k_is)
    (case k13 => k_is)
    (case a14 => k_is)
    (case l14 => k_is)
    (case c14 => k_is)
    (case k14 => k_is)
    (case a15 => k_is)
    (case l15 => k_is)
    (case c15 => k_is)
    (case k15 => k_is)
    (case a16 => k_is)
    (case l16 => k_is)
    (case c16 => k_is)
    (case k16 => k_is)
    (case a17 => k_is)
    (case l17 => k_is)
    (case c17 => k_is)
    (case k17 => k_is)
    (case a18 => k_is)
    (case l18 => k_is)
    (case c18 => k_is)
    (case k18 => k_is)
    (case a19 => k_is)
    (case l19 => k_is)
    (case c19 => k_is)
    (case k19 => k_is)
    (case a20 => k_is)
    (case l20 => k_is)
    (case c20 => k_is)
    (case k20 => k_is)
    (case a21 => k_is)
    (case l21 => k_is)
    (case c21 => k_is)
    (case k21 => k_is)
    (case a22 => k_is)
    (case l22 => k_is)
    (case c22 => k_is)
    (case k22 => k_is)
    (case a23 => k_is)
    (case l23 => k_is)
    (case c23 => k_is)
    (case k23 => k_is)
    (case a24 => k_is)
    (case l24 => k_is)
    (case c24 => k_is)
    (case k24 => k_is)
    (case a25 => k_is)
    (case l25 => k_is)
    (case c25 => k_is)
    (case k25 => k_is)
    (case a26 => k_is)
    (case l26 => k_is)
    (case c26 => k_is)
    (case k26 => k_is)
    (case a27 => k_is)
    (case l27 => k_is)
    (case c27 => k_is)
    (case k27 => k_is)
    (case a28 => k_is)
    (case l28 => k_is)
    (case c28 => k_is)
    (case k28 => k_is)
    (case a29 => k_is)
    (case l29 => k_is)
    (case c29 => k_is)
    (case k29 => k_is)
    (case z_bool => k_is)
    (case z_divmod => k_is)
    (case z_enumerate => k_is)
    (case z_int => k_is)
    (case z_isinstance => k_is)
    (case z_len => k_is)
    (case z_list => k_is)
    (case z_max => k_is)
    (case z_min => k_is)
    (case z_range => k_is)
    (case z_sum => k_is)
    (case z_zip => k_is)
    (case e_CELL_SIZE => k_is)
    (case e_CHECK_SIZE => k_is)
    (case e_HIGHEST => k_is)
    (case e_LOAD_SIZE => k_is)
    (case e_MOST_BITS => k_is)
    (case e_MOST_COUNT => k_is)
    (case e_MOST_GROUP => k_is)
    (case e_MOST_ZEROS => k_is)
    (case e_STATES => k_is)
    (case e_TURN => k_is)
    (case g_BadBits => k_is)
    (case x0_BadBits => k_exc)
    (case x1_BadBits => k_is)
    (case x2_BadBits => k_is)
    (case x3_BadBits => k_is)
    (case x4_BadBits => k_is)
    (case x5_BadBits => k_is)
    (case x6_BadBits => k_is)
    (case x7_BadBits => k_is)
    (case x8_BadBits => k_is)
    (case x9_BadBits => k_is)
    (case xa_BadBits => k_is)
    (case g_BadCells => k_is)
    (case x0_BadCells => k_exc)
    (case x1_BadCells => k_is)
    (case x2_BadCells => k_is)
    (case x3_BadCells => k_is)
    (case x4_BadCells => k_is)
    (case x5_BadCells => k_is)
    (case x6_BadCells => k_is)
    (case x7_BadCells => k_is)
    (case x8_BadCells => k_is)
    (case x9_BadCells => k_is)
    (case xa_BadCells => k_is)
    (case g_Great => k_is)
    (case x0_Great => k_exc)
    (case x1_Great => k_is)
    (case x2_Great => k_is)
    (case x3_Great => k_is)
    (case x4_Great => k_is)
    (case x5_Great => k_is)
    (case x6_Great => k_is)
    (case x7_Great => k_is)
    (case x8_Great => k_is)
    (case x9_Great => k_is)
    (case xa_Great => k_is)
    (case g_NarrowError => k_is)
    (case x0_NarrowError => k_exc)
    (case x1_NarrowError => k_is)
    (case x2_NarrowError => k_is)
    (case x3_NarrowError => k_is)
    (case x4_NarrowError => k_is)
    (case x5_NarrowError => k_is)
    (case x6_NarrowError => k_is)
    (case x7_NarrowError => k_is)
    (case x8_NarrowError => k_is)
    (case x9_NarrowError => k_is)
    (case xa_NarrowError => k_is)
    (case g_Outside => k_is)
    (case x0_Outside => k_exc)
    (case x1_Outside => k_is)
    (case x2_Outside => k_is)
    (case x3_Outside => k_is)
    (case x4_Outside => k_is)
    (case x5_Outside => k_is)
    (case x6_Outside => k_is)
    (case x7_Outside => k_is)
    (case x8_Outside => k_is)
    (case x9_Outside => k_is)
    (case xa_Outside => k_is)
    (case s_BadBits_BadBits => first | rfl | k_is)
    (case s_BadBits_BadCells => first | rfl | k_is)
    (case s_BadBits_Great => first | rfl | k_is)
    (case s_BadBits_NarrowError => first | rfl | k_is)
    (case s_BadBits_Outside => first | rfl | k_is)
    (case s_BadCells_BadBits => first | rfl | k_is)
    (case s_BadCells_BadCells => first | rfl | k_is)
    (case s_BadCells_Great => first | rfl | k_is)
    (case s_BadCells_NarrowError => first | rfl | k_is)
    (case s_BadCells_Outside => first | rfl | k_is)
    (case s_Great_BadBits => first | rfl | k_is)
    (case s_Great_BadCells => first | rfl | k_is)
    (case s_Great_Great => first | rfl | k_is)
    (case s_Great_NarrowError => first | rfl | k_is)
    (case s_Great_Outside => first | rfl | k_is)
    (case s_NarrowError_BadBits => first | rfl | k_is)
    (case s_NarrowError_BadCells => first | rfl | k_is)
    (case s_NarrowError_Great => first | rfl | k_is)
    (case s_NarrowError_NarrowError => first | rfl | k_is)
    (case s_NarrowError_Outside => first | rfl | k_is)
    (case s_Outside_BadBits => first | rfl | k_is)
    (case s_Outside_BadCells => first | rfl | k_is)
    (case s_Outside_Great => first | rfl | k_is)
    (case s_Outside_NarrowError => first | rfl | k_is)
    (case s_Outside_Outside => first | rfl | k_is)
#print axioms PySem.Challenge.cw_narrowingbits_k60_cells_laid_out_holds
