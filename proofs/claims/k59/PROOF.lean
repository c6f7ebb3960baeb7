import PyProof.Rows.All
import Wide.All
import OpenK.AllK
import Wide.FinOn
import HandS.ForMost
import HandS.IsInst
import HandS.Style
import HandS.FStr
import HandS.StrMore
import HandS.WideBits
import HandS.Walk
import PyProof.Rows.StrIntSpec
import PyProof.FString3
import PyProof.Rows.FStr
import PySem.Challenge.RW_narrowingbits_k59_damage_that_is_told
set_option Elab.async false
set_option maxRecDepth 100000
set_option maxHeartbeats 4000000
namespace NB
open PySem L2
/-! ### the frozen part, the steps -/
/-- from (F, H) to (F', H'): F is what stands still, H the whole; S: the cells that may be written -/
structure Stp (S : Addr → Prop) (F H F' H' : Hp) : Prop where
  ff : Same F F'
  fh : Same F' H'
  fo : ∀ b o, H b = some o → F' b = F b
  keep : ∀ b o, ¬ S b → H b = some o → H' b = some o
  dom : ∀ b o, H b = some o → ∃ o', H' b = some o'
abbrev S0 : Addr → Prop := fun _ => False
abbrev S1 (p : Addr) : Addr → Prop := fun b => b = p
section
variable {S S' : Addr → Prop} {F H F1 H1 F2 H2 : Hp} {p : Addr} {o o' : HO}
theorem Stp.rfl' (h : Same F H) : Stp S F H F H := ⟨Same.refl F, h, fun _ _ _ => rfl, fun _ _ _ e => e, fun _ o e => ⟨o, e⟩⟩
theorem Stp.trans (a : Stp S F H F1 H1) (b : Stp S F1 H1 F2 H2) : Stp S F H F2 H2 :=
  ⟨a.ff.trans b.ff, b.fh, fun c o e => by
    obtain ⟨o', e'⟩ := a.dom c o e
    rw [b.fo c o' e', a.fo c o e], fun c o n e => b.keep c o n (a.keep c o n e), fun c o e => by
    obtain ⟨o', e'⟩ := a.dom c o e
    exact b.dom c o' e'⟩
theorem Stp.sub (i : ∀ b, S b → S' b) (a : Stp S F H F1 H1) : Stp S' F H F1 H1 := ⟨a.ff, a.fh, a.fo, fun b o n e => a.keep b o (fun z => n (i b z)) e, a.dom⟩
theorem Stp.up (a : Stp S0 F H F1 H1) : Stp S F H F1 H1 := a.sub fun _ z => z.elim
theorem Stp.same (a : Stp S0 F H F1 H1) : Same H H1 := fun b o e => a.keep b o (fun z => z) e
/-- a new thing that will never change -/
theorem Stp.new (h : Same F H) (hp : H p = none) : Stp S F H (upd F p o) (upd H p o) := by
  have fp : F p = none := h.free hp
  refine ⟨fun b u e => ?_, fun b u e => ?_, fun b u e => ?_, fun b u _ e => ?_, fun b u e => ⟨u, ?_⟩⟩
  · rw [upd_ne (ne_of_none e fp)]; exact e
  · by_cases q : b = p
    · subst q; rw [upd_same] at e ⊢; exact e
    · rw [upd_ne q] at e ⊢; exact h b u e
  · rw [upd_ne (ne_of_none e hp)]
  · rw [upd_ne (ne_of_none e hp)]; exact e
  · rw [upd_ne (ne_of_none e hp)]; exact e
/-- a new cell -/
theorem Stp.cell (h : Same F H) (hp : H p = none) : Stp S F H F (upd H p o) :=
  ⟨Same.refl F, fun b u e => by rw [upd_ne (ne_of_none (h b u e) hp)]; exact h b u e, fun _ _ _ => rfl, fun b u _ e => by rw [upd_ne (ne_of_none e hp)]; exact e, fun b u e => ⟨u, by rw [upd_ne (ne_of_none e hp)]; exact e⟩⟩
/-- a cell written -/
theorem Stp.wr (h : Same F H) (hs : S p) (fp : F p = none) : Stp S F H F (upd H p o) :=
  ⟨Same.refl F, fun b u e => by
    have n : b ≠ p := fun q => by rw [q, fp] at e; cases e
    rw [upd_ne n]; exact h b u e, fun _ _ _ => rfl, fun b u n e => by
    have q : b ≠ p := fun z => n (z ▸ hs)
    rw [upd_ne q]; exact e, fun b u e => by
    by_cases q : b = p
    · exact ⟨o, by rw [q, upd_same]⟩
    · exact ⟨u, by rw [upd_ne q]; exact e⟩⟩
/-- a cell that was made here is written -/
theorem Stp.wrNew (a : Stp S F H F1 H1) (hn : H p = none) (fp : F1 p = none) : Stp S F H F1 (upd H1 p o) :=
  ⟨a.ff, fun b u e => by
    have n : b ≠ p := fun q => by rw [q, fp] at e; cases e
    rw [upd_ne n]; exact a.fh b u e, a.fo, fun b u n e => by
    rw [upd_ne (ne_of_none e hn)]; exact a.keep b u n e, fun b u e => by
    rw [upd_ne (ne_of_none e hn)]; exact a.dom b u e⟩
/-- a cell that was made here stands still from now on -/
theorem Stp.freeze (a : Stp S F H F1 H1) (hn : H p = none) (hp : H1 p = some o) (fp : F1 p = none) : Stp S F H (upd F1 p o) H1 :=
  ⟨fun b u e => by
    have e1 := a.ff b u e
    rw [upd_ne (ne_of_none e1 fp)]; exact e1, fun b u e => by
    by_cases q : b = p
    · subst q; rw [upd_same] at e; cases e; exact hp
    · rw [upd_ne q] at e; exact a.fh b u e, fun b u e => by
    rw [upd_ne (ne_of_none e hn)]; exact a.fo b u e, a.keep, a.dom⟩
theorem Stp.free (a : Stp S F H F1 H1) (hp : H p = some o) (fp : F p = none) : F1 p = none := (a.fo p o hp).trans fp
end
/-! ### a def that stands, with its promise -/
structure Fn (P : Program) (w : World) (K : PySem.W.Frag) (mg : Str → Option Value) (base : Heap) (CX : CXT) (k : Nat) (nm : Str) (st : Stmt) (f : Addr) (fd : FuncData) (ps : List Str) (sp : Sp) : Prop where
  G : FnOk P w K mg base CX k f fd ps sp
  m : mg nm = some (.ref f)
  kp : PySem.W.keepIn K (.ref f) = true
  b : Binds K fd ps []
  F : Fun K nm nm st f fd
/-! ### keywords -/
def gK {α : Type} (n m : Nat) (us ws : List α) : List α := if us.length = n ∧ ws.length = m then us ++ ws else []
theorem _root_.L2.Fun.kbinds {K : PySem.W.Frag} {x qual : Str} {st : Stmt} {f : Addr} {fd : FuncData} {ps : List Str} (F : Fun K x qual st f fd) (n : Nat) (ks : List Str) (hn : 0 < ps.length)
    (h : ∀ (kV doc pm : Value) (an : Option Addr) (cdv ct : Value) (us ws : List Value), us.length = n → ws.length = ks.length → bindArgs (PySem.W.fnOf x qual (defArgs st) (defBody st) (defScope st) .none kV doc pm an cdv ct) ⟨us, ks.zip ws⟩ = pure (ps.zip (us ++ ws))) :
    KBinds K fd ps ks (gK n ks.length) (gK n ks.length) := by
  obtain ⟨oc, od, kV, doc, pm, an, cdv, ct, osl, rfl, lk, hcd⟩ := F.ex
  refine ⟨fun s us ws _ hl => ?_, fun {vs us zs ws} r rz => ?_⟩
  · by_cases c : us.length = n ∧ ws.length = ks.length
    · have e : gK n ks.length us ws = us ++ ws := if_pos c
      rw [e]
      exact .of_eq (h kV doc pm an cdv ct us ws c.1 c.2)
    · have e : gK n ks.length us ws = [] := if_neg c
      rw [e] at hl
      exact absurd hl (by show ¬ 0 = ps.length; omega)
  · unfold gK
    by_cases c : us.length = n ∧ ws.length = ks.length
    · have c' : vs.length = n ∧ zs.length = ks.length := ⟨r.length.trans c.1, rz.length.trans c.2⟩
      rw [if_pos c, if_pos c']
      exact r.append rz
    · have c' : ¬ (vs.length = n ∧ zs.length = ks.length) := fun z => c ⟨r.length.symm.trans z.1, rz.length.symm.trans z.2⟩
      rw [if_neg c, if_neg c']
      exact .nil
def tCallK0 (sp : Sp) (gV : List V → List V → List V) (E : XK) (tk : TA) : TE := fun σ H Q => tk σ H fun zs H2 => sp (gV [] zs) H2 Q E
theorem pe_callK0 {X : Cx} {CX : CXT} {k : Nat} {f : Addr} {fd : FuncData} {ps ks : List Str} {sp : Sp} {E : XK} {x : Str} {p pos : Pos} {kws : List Keyword} {tk : TA} {g : List Value → List Value → List Value} {gV : List V → List V → List V}
    (F : FnOk X.prog X.w X.K X.mg X.base CX k f fd ps sp) (hr : Room k X.A) (hg : Gl X x) (hm : X.mg x = some (.ref f)) (hk : PySem.W.keepIn X.K (.ref f) = true) (hb : KBinds X.K fd ps ks g gV) (hx : Passes CX X E) (hkw : PK X kws tk)
    (hall : (backToKw pos (keywordEach kws X.env)).all (·.1.isSome) = true := by rfl) (hks : (backToKw pos (keywordEach kws X.env)).filterMap (·.1) = ks := by rfl) (hdb : (x == ("__debug__" : Str)) = false := by decide)
    (hpl : ((backTo pos (starEach [] X.env)).any (·.1) || (backToKw pos (keywordEach kws X.env)).any (·.1.isNone)) = false := by rfl) : PE X (.Call (.Name x p) [] kws pos) (tCallK0 sp gV E tk) := by
  refine ⟨fun pins s σ H Q I h => ?_⟩
  refine wpAny_Call_Name_kw (ld_glob I hg hm ?_ hdb)
  refine PySem.W.callWith_KW0 (h₀ := X.base) I.ok.mod.kin hk hall ?_ hpl
  refine thn (hkw.run pos pins s σ H _ I h) fun ws s2 ⟨zs, H2, I2, rz, q2⟩ => ⟨I2.kIn, ?_⟩
  rw [hks]
  exact run_fnk F hr hb hx I2 .nil rz q2
def SpN (n : Nat) (s : Sp) : Sp := fun vs H Q E => vs.length = n ∧ s vs H Q E
/-! ### rules under names -/
def rInt1 : List V → Hp → VK → Prop := fun xs H Q => (∃ i, xs = [.int i] ∧ Q (.int i) H) ∨ ∃ k, xs = [.bl k] ∧ Q (.int (if k then 1 else 0)) H
def rMax2 : List V → Hp → VK → Prop := fun xs H Q => ∃ i j, xs = [.int i, .int j] ∧ Q (.int (if j > i then j else i)) H
def rMin2 : List V → Hp → VK → Prop := fun xs H Q => ∃ i j, xs = [.int i, .int j] ∧ Q (.int (if j < i then j else i)) H
def rLen (K : PySem.W.Frag) : List V → Hp → VK → Prop := fun xs H Q => ∃ p ys, xs = [.ref p] ∧ (SqL K H p ys ∨ SqT K H p ys) ∧ Q (.int ys.length) H
section
variable {X : Cx}
theorem c_int1 : CallR X (.type "int") rInt1 := call_int1
theorem c_max2 (hc : X.calm = true) : CallR X (.builtin "max") rMax2 := call_max2 hc
theorem c_min2 (hc : X.calm = true) : CallR X (.builtin "min") rMin2 := call_min2 hc
theorem c_len (K : PySem.W.Frag) (e : X.K = K) : CallR X (.builtin "len") (rLen K) := by subst e; exact call_len_seq
theorem c_isi (K : PySem.W.Frag) (e : X.K = K) : CallR X (.builtin "isinstance") (rIsi K) := by subst e; exact call_isi
theorem i_list (K : PySem.W.Frag) (e : X.K = K) : IxR X (rIxL K) := by subst e; exact ix_list
theorem i_tup (K : PySem.W.Frag) (e : X.K = K) : IxR X (rIxT K) := by subst e; exact ix_tup
theorem o_and1 : OpR X (binaryOp .BitAnd) (fun x y H Q => ∃ i : Int, x = .int i ∧ y = .int 1 ∧ Q (.int (i % 2)) H) := by
  intro pins s σ H x y v u Q I rx ry h
  obtain ⟨i, rfl, rfl, q⟩ := h
  exact op_andM pins s σ H _ _ v u Q I rx ry ⟨i, 1, rfl, rfl, by simpa using q⟩
theorem l_list (K : PySem.W.Frag) (e : X.K = K) : SlR X (rSlL K) := by subst e; exact sl_list
theorem o_in (K : PySem.W.Frag) (e : X.K = K) : OpR X (compareOp .In) (rIn K false) := by subst e; exact op_in_seq
theorem o_notIn (K : PySem.W.Frag) (e : X.K = K) : OpR X (compareOp .NotIn) (rIn K true) := by subst e; exact op_notIn_seq
def rDivmod : List V → Hp → VK → Prop := fun xs H Q => ∃ i j, xs = [.int i, .int j] ∧ CDiv i j ∧ ∀ p, H p = none → Q (.ref p) (upd H p (.tup [.int (i / j), .int (i % j)]))
theorem c_divmod : CallR X (.builtin "divmod") rDivmod := call_divmod
theorem o_eqD (K : PySem.W.Frag) (e : X.K = K) (hu : X.A.units + 64 < cLine) : OpR X (compareOp .Eq) (rEqD K) := by subst e; exact op_eqD hu
theorem o_neD (K : PySem.W.Frag) (e : X.K = K) (hu : X.A.units + 64 < cLine) : OpR X (compareOp .NotEq) (rNeD K) := by subst e; exact op_neD hu
end
theorem sz {n : Nat} (h : n ≤ 100000) : n ≤ sizeLine := Nat.le_trans h (by decide)
/-! ### readings, step by step -/
section
variable {X : Cx} {K : PySem.W.Frag} {σ : L2.St} {H F : Hp} {Q : VK} {i : Nat} {v x y : V} {ta tb : TE} {r : R2}
theorem s_var (h : σ[i]? = some (some v)) (q : Q v H) : tVar i σ H Q := ⟨v, h, q⟩
theorem s_c (q : Q v H) : tC v σ H Q := q
theorem s_op (h : ta σ H fun x H1 => tb σ H1 fun y H2 => r x y H2 Q) : tOp r ta tb σ H Q := h
theorem s_I0 {g : Int → Int → V} {i j : Int} (q : Q (g i j) H) : rI0 g (.int i) (.int j) H Q := ⟨i, j, rfl, rfl, q⟩
theorem s_I {C : Int → Int → Prop} {g : Int → Int → V} {i j : Int} (c : C i j) (q : Q (g i j) H) : rI C g (.int i) (.int j) H Q := ⟨i, j, rfl, rfl, c, q⟩
theorem s_eq (h : scal x y = true) (q : Q (.bl (decide (x = y))) H) : rEq x y H Q := ⟨h, q⟩
theorem dec_int (i j : Int) : decide (V.int i = V.int j) = decide (i = j) := by by_cases h : i = j <;> simp [h]
theorem dec_str (i j : Str) : decide (V.str i = V.str j) = decide (i = j) := by by_cases h : i = j <;> simp [h]
theorem s_eqI {i j : Int} (q : Q (.bl (decide (i = j))) H) : rEq (.int i) (.int j) H Q := ⟨rfl, by rw [dec_int]; exact q⟩
theorem s_neI {i j : Int} (q : Q (.bl (!decide (i = j))) H) : rNe (.int i) (.int j) H Q := ⟨rfl, by rw [dec_int]; exact q⟩
theorem s_eqS {i j : Str} (q : Q (.bl (decide (i = j))) H) : rEq (.str i) (.str j) H Q := ⟨rfl, by rw [dec_str]; exact q⟩
theorem s_neS {i j : Str} (q : Q (.bl (!decide (i = j))) H) : rNe (.str i) (.str j) H Q := ⟨rfl, by rw [dec_str]; exact q⟩
theorem s_chain {r' : R2} {tc : TE} (h : ta σ H fun x H1 => tb σ H1 fun y H2 => r x y H2 fun z H3 => ∃ k, z = .bl k ∧ if k = true then tc σ H3 fun u H4 => r' y u H4 Q else Q (.bl false) H3) : tChain r r' ta tb tc σ H Q := by
  unfold tChain; exact h
theorem s_par3 {i j l : Nat} {ta : TA} {D : Ends} (h : ta σ H fun vs H1 => ∃ u v w, vs = [u, v, w] ∧ D.nx (((σ.set i (some u)).set j (some v)).set l (some w)) H1) : tPar3 i j l ta D σ H := h
theorem s_par {i j : Nat} {ta : TA} {D : Ends} (h : ta σ H fun vs H1 => ∃ v w, vs = [v, w] ∧ D.nx ((σ.set i (some v)).set j (some w)) H1) : tPar i j ta D σ H := h
theorem s_v2 {x y : V} {R : V → V → Prop} (h : R x y) : ∃ a b, [x, y] = [a, b] ∧ R a b := ⟨x, y, rfl, h⟩
theorem s_v3 {x y z : V} {R : V → V → V → Prop} (h : R x y z) : ∃ a b c, [x, y, z] = [a, b, c] ∧ R a b c := ⟨x, y, z, rfl, h⟩
theorem s_tup {t : TA} (h : t σ H fun xs H1 => xs.length ≤ sizeLine ∧ ∀ p, H1 p = none → Q (.ref p) (upd H1 p (.tup xs))) : tTup t σ H Q := h
theorem s_lst {t : TA} (h : t σ H fun xs H1 => xs.length ≤ sizeLine ∧ ∀ p, H1 p = none → Q (.ref p) (upd H1 p (.lst xs))) : tLst t σ H Q := h
theorem s_nil {Q : List V → Hp → Prop} (q : Q [] H) : tNil σ H Q := q
theorem s_cons {t : TA} {Q : List V → Hp → Prop} (h : ta σ H fun x H1 => t σ H1 fun xs H2 => Q (x :: xs) H2) : tCons ta t σ H Q := h
theorem s_call {sp : Sp} {dvs : List V} {E : XK} {t : TA} (h : t σ H fun vs H1 => sp (vs ++ dvs) H1 Q E) : tCall sp dvs E t σ H Q := h
theorem s_callK0 {sp : Sp} {gV : List V → List V → List V} {E : XK} {t : TA} (h : t σ H fun zs H1 => sp (gV [] zs) H1 Q E) : tCallK0 sp gV E t σ H Q := h
theorem s_callK {sp : Sp} {gV : List V → List V → List V} {E : XK} {t tk : TA} (h : t σ H fun vs H1 => tk σ H1 fun zs H2 => sp (gV vs zs) H2 Q E) : tCallK sp gV E t tk σ H Q := h
theorem s_bits (h : ta σ H fun x H1 => ∃ i, x = .int i ∧ Q (.int (Builtin.Int.intBits i : Nat)) H1) : tBits ta σ H Q := h
theorem s_i {i : Int} {R : Int → Prop} (h : R i) : ∃ j, V.int i = V.int j ∧ R j := ⟨i, rfl, h⟩
theorem s_bm {T : String} {r : V → List V → Hp → VK → Prop} {to : TE} {t : TA} (h : to σ H fun x H1 => tyV K T x H1 ∧ t σ H1 fun xs H2 => r x xs H2 Q) : tBM K T r to t σ H Q := h
theorem s_bm0 {T : String} {r : V → List V → Hp → VK → Prop} {to : TE} (h : to σ H fun x H1 => tyV K T x H1 ∧ r x [] H1 Q) : tBM0 K T r to σ H Q := h
theorem s_m1 {r : V → List V → Hp → VK → Prop} (h : ta σ H fun x H1 => (∃ a, x = .str a) ∧ tb σ H1 fun y H2 => r x [y] H2 Q) : tM1 r ta tb σ H Q := h
theorem s_cb {r : List V → Hp → VK → Prop} {t : TA} (h : t σ H fun vs H1 => r vs H1 Q) : tCB r t σ H Q := h
theorem s_test {Q : Bool → Hp → Prop} {t : TE} (h : t σ H fun x H' => ∃ k, x = .bl k ∧ Q k H') : tTest t σ H Q := h
theorem s_tB {Q : Bool → Hp → Prop} {t : TE} (h : t σ H fun x H' => ∃ k, x = .bl k ∧ Q k H') : tB t σ H Q := h
theorem s_bl {k : Bool} {Q : Bool → Hp → Prop} (q : Q k H) : ∃ k', V.bl k = .bl k' ∧ Q k' H := ⟨k, rfl, q⟩
theorem s_not {Q : Bool → Hp → Prop} {t : TT} (h : t σ H fun c H1 => Q (!c) H1) : tNot t σ H Q := h
theorem s_and {Q : Bool → Hp → Prop} {t u : TT} (h : t σ H fun c H1 => if c = true then u σ H1 Q else Q false H1) : tAnd t u σ H Q := h
theorem s_or {Q : Bool → Hp → Prop} {t u : TT} (h : t σ H fun c H1 => if c = true then Q true H1 else u σ H1 Q) : tOr t u σ H Q := h
theorem s_un {r : V → Hp → VK → Prop} (h : ta σ H fun x H1 => r x H1 Q) : tUn r ta σ H Q := h
theorem s_U {g : Int → V} {i : Int} (q : Q (g i) H) : rU g (.int i) H Q := ⟨i, rfl, q⟩
theorem s_int1 {i : Int} (q : Q (.int i) H) : rInt1 [.int i] H Q := .inl ⟨i, rfl, q⟩
theorem s_int1b {b : Bool} (q : Q (.int (if b then 1 else 0)) H) : rInt1 [.bl b] H Q := .inr ⟨b, rfl, q⟩
theorem s_ixL {p : Addr} {xs : List V} {i : Int} (h : SqL K H p xs) (a : atI xs i = some v) (q : Q v H) : rIxL K (.ref p) (.int i) H Q := ⟨p, xs, i, v, rfl, rfl, h, a, q⟩
theorem s_ixT {p : Addr} {xs : List V} {i : Int} (h : SqT K H p xs) (a : atI xs i = some v) (q : Q v H) : rIxT K (.ref p) (.int i) H Q := ⟨p, xs, i, v, rfl, rfl, h, a, q⟩
theorem s_len {p : Addr} {xs : List V} (h : SqL K H p xs) (q : Q (.int xs.length) H) : rLen K [V.ref p] H Q := ⟨p, xs, rfl, .inl h, q⟩
theorem s_lenT {p : Addr} {xs : List V} (h : SqT K H p xs) (q : Q (.int xs.length) H) : rLen K [V.ref p] H Q := ⟨p, xs, rfl, .inr h, q⟩
theorem s_max2 {i j : Int} (q : Q (.int (if j > i then j else i)) H) : rMax2 [.int i, .int j] H Q := ⟨i, j, rfl, q⟩
theorem s_min2 {i j : Int} (q : Q (.int (if j < i then j else i)) H) : rMin2 [.int i, .int j] H Q := ⟨i, j, rfl, q⟩
theorem s_isi {v : V} {n : String} {t : String} {b : Bool} (h : TyX K H v (.type t)) (e : kitB t n = some b) (q : Q (.bl b) H) : rIsi K [v, .ty n] H Q := ⟨v, .ty n, .type t, .type n, b, rfl, .ty n, h, kit_ty e, q⟩
theorem s_eqD {d e : PyData} (h1 : Dp K H x d) (h2 : Dp K H y e) (s1 : SeqAt.shaped d = true) (s2 : SeqAt.shaped e = true) (q : Q (.bl (PyData.eqv d e)) H) : rEqD K x y H Q := ⟨d, e, h1, h2, s1, s2, q⟩
theorem s_andV {c : Bool} (h : if c = true then tb σ H Q else Q (.bl false) H) : ∃ c', V.bl c = .bl c' ∧ if c' = true then tb σ H Q else Q (.bl false) H := ⟨c, rfl, h⟩
theorem s_andV0 (h : ta σ H fun x H1 => ∃ c, x = .bl c ∧ if c = true then tb σ H1 Q else Q (.bl false) H1) : tAndV ta tb σ H Q := h
theorem s_orV0 (h : ta σ H fun x H1 => ∃ c, x = .bl c ∧ if c = true then Q (.bl true) H1 else tb σ H1 Q) : tOrV ta tb σ H Q := h
theorem s_notV (h : ta σ H fun x H1 => ∃ c, x = .bl c ∧ Q (.bl (!c)) H1) : tNotV ta σ H Q := h
theorem s_b {c : Bool} {R : Bool → Prop} (h : R c) : ∃ c', V.bl c = V.bl c' ∧ R c' := ⟨c, rfl, h⟩
theorem s_gtup {n : Nat} {t : TGs} {a : Addr} {xs : List V} {R : L2.St → Hp → Prop} (h : SqT K H a xs) (e : xs.length = n) (q : t xs σ H R) : gTup K n t (.ref a) σ H R := ⟨a, xs, rfl, h, e, q⟩
theorem s_gcons {t : TG} {u : TGs} {r : List V} {R : L2.St → Hp → Prop} (q : t v σ H fun σ' H' => u r σ' H' R) : gCons t u (v :: r) σ H R := ⟨v, r, rfl, q⟩
theorem s_gnil {R : L2.St → Hp → Prop} (q : R σ H) : gNil [] σ H R := ⟨rfl, q⟩
theorem s_gsub {to ti : TE} {t : TSet} {R : L2.St → Hp → Prop} (h : to σ H fun o H1 => ti σ H1 fun i H2 => t o i v H2 fun H3 => R σ H3) : gSub to ti t v σ H R := h
theorem s_setL {p : Addr} {xs : List V} {i : Int} {j : Nat} {R : Hp → Prop} (h : H p = some (.lst xs)) (e : ixN xs.length i = some j) (q : R (upd H p (.lst (xs.set j v)))) : rSetL (.ref p) (.int i) v H R := ⟨p, xs, i, j, rfl, rfl, h, e, q⟩
theorem s_ifE {t : TT} (h : t σ H fun c H1 => if c = true then ta σ H1 Q else tb σ H1 Q) : tIf t ta tb σ H Q := h
variable {D : Ends} {t u : TS}
theorem s_seq (h : t { D with nx := u D } σ H) : tSeq t u D σ H := h
theorem s_next (h : D.nx σ H) : tNext D σ H := h
theorem s_asg {g : TG} (h : ta σ H fun x H1 => g x σ H1 D.nx) : tAsg ta g D σ H := h
theorem s_gname {R : L2.St → Hp → Prop} (h : R (σ.set i (some v)) H) : gName i v σ H R := h
theorem s_ret (h : ta σ H D.rt) : tRet ta D σ H := h
theorem s_if {c : TT} (h : c σ H fun b H1 => if b = true then t D σ H1 else u D σ H1) : tIfS c t u D σ H := h
theorem s_drop (h : ta σ H fun _ H1 => D.nx σ H1) : tDrop ta D σ H := h
/-- a loop over what stands -/
def forT (J : It) (g : TG) (tb : TS) : TS := tFor (fun _ H R => R J H) g tb
theorem s_for {wi : TI} {g : TG} {tb : TS} (h : wi σ H fun J H1 => forT J g tb D σ H1) : tFor wi g tb D σ H := h
theorem s_iR1 {ta : TA} {R : It → Hp → Prop} (h : ta σ H fun vs H1 => ∃ n : Int, vs = [.int n] ∧ -(2 ^ 62) ≤ n ∧ n < 2 ^ 62 ∧ R (Itr 0 n.toNat) H1) : iRng1 ta σ H R := h
theorem s_iR2 {ta : TA} {R : It → Hp → Prop} (h : ta σ H fun vs H1 => ∃ m n : Int, vs = [.int m, .int n] ∧ (-(2 ^ 62) ≤ m ∧ m < 2 ^ 62 ∧ -(2 ^ 62) ≤ n ∧ n < 2 ^ 62) ∧ R (Itr m (n - m).toNat) H1) : iRng2 ta σ H R := h
theorem s_iL {R : It → Hp → Prop} (h : ta σ H fun x H1 => ∃ a, x = .ref a ∧ (∃ xs, SqL K H1 a xs) ∧ R (Itl K a) H1) : iList K ta σ H R := h
theorem s_iT {R : It → Hp → Prop} (h : ta σ H fun x H1 => ∃ a, x = .ref a ∧ (∃ xs, SqT K H1 a xs) ∧ R (Itt K a) H1) : iTup K ta σ H R := h
theorem s_iS {R : It → Hp → Prop} (h : ta σ H fun x H1 => ∃ z, x = .str z ∧ R (Its z) H1) : iStr ta σ H R := h
theorem forW {J : It} {n : Nat} {G : Hp → Prop} {Y : Nat → Hp → V → Hp → Prop} {g : TG} {tb : TS} (w : Walk J n G Y) (Pv : Nat → L2.St → Hp → Prop) (h0 : Pv 0 σ H) (hG : ∀ i σ H, i ≤ n → Pv i σ H → G H)
    (hs : ∀ i x σ H H', i < n → Pv i σ H → Y i H x H' → g x σ H' fun σ2 H2 => tb { D with nx := Pv (i + 1), ct := Pv (i + 1), bk := D.nx } σ2 H2) (hd : ∀ σ H, Pv n σ H → D.nx σ H) : forT J g tb D σ H := for_it w Pv h0 hG hs hd
theorem forR {lo : Int} {n : Nat} {g : TG} {tb : TS} (Pv : Nat → L2.St → Hp → Prop) (h0 : Pv 0 σ H) (hs : ∀ i σ H, i < n → Pv i σ H → g (.int (lo + i)) σ H fun σ2 H2 => tb { D with nx := Pv (i + 1), ct := Pv (i + 1), bk := D.nx } σ2 H2)
    (hd : ∀ σ H, Pv n σ H → D.nx σ H) : forT (Itr lo n) g tb D σ H := for_range Pv h0 hs hd
theorem forL {a : Addr} {xs : List V} {g : TG} {tb : TS} (Pv : Nat → L2.St → Hp → Prop) (h0 : Pv 0 σ H) (hl : ∀ i σ H, i ≤ xs.length → Pv i σ H → SqL K H a xs)
    (hs : ∀ i x σ H, xs[i]? = some x → Pv i σ H → g x σ H fun σ2 H2 => tb { D with nx := Pv (i + 1), ct := Pv (i + 1), bk := D.nx } σ2 H2) (hd : ∀ σ H, Pv xs.length σ H → D.nx σ H) : forT (Itl K a) g tb D σ H := for_list Pv h0 hl hs hd
/-- a comprehension over what stands -/
def lcT (J : It) (g : TG) (tt : TT) (te : TE) (vs : List Nat) : TE := tLc (fun _ H R => R J H) g tt te vs
theorem s_lc {wi : TI} {g : TG} {tt : TT} {te : TE} {vs : List Nat} (h : wi σ H fun J H1 => lcT J g tt te vs σ H1 Q) : tLc wi g tt te vs σ H Q := h
theorem s_sl {r : V → Option Int → Option Int → Hp → VK → Prop} {tl th : TO} (h : ta σ H fun x H1 => tl σ H1 fun l H2 => th σ H2 fun u H3 => r x l u H3 Q) : tSl r ta tl th σ H Q := h
theorem s_part {R : Option Int → Hp → Prop} (h : ta σ H fun x H1 => ∃ i, x = .int i ∧ R (some i) H1) : tPart ta σ H R := h
theorem s_nopart {R : Option Int → Hp → Prop} (h : R none H) : tNoPart σ H R := h
theorem s_slL {p : Addr} {xs : List V} {l u : Option Int} (h : SqL K H p xs) (q : ∀ p', H p' = none → Q (.ref p') (upd H p' (.lst (cutV xs l u)))) : rSlL K (.ref p) l u H Q := ⟨p, xs, rfl, h, q⟩
theorem s_iR3 {ta : TA} {R : It → Hp → Prop} (h : ta σ H fun vs H1 => ∃ (i j c : Int) (n : Nat), vs = [.int i, .int j, .int c] ∧ RgC i j c n ∧ R (Itc i c n) H1) : iRng3 ta σ H R := h
theorem rgc_up {L k : Int} (hL : 0 ≤ L) (hL2 : L < 2 ^ 62) (hk : 0 < k) (hk2 : k < 1073741824) : RgC 0 L k ((L + k - 1) / k).toNat := by
  have e : Builtin.Range.rangeSize 0 L k = (((L + k - 1) / k).toNat : Int) := by
    unfold Builtin.Range.rangeSize
    rw [if_pos hk]
    have h0 : 0 ≤ (L + k - 1) / k := Int.ediv_nonneg (by omega) (by omega)
    split
    · rw [show L + k - 1 = (L - 0 - 1) + k by omega, Int.add_ediv_of_dvd_right (Int.dvd_refl k), Int.ediv_self (by omega)]
      have : 0 ≤ (L - 0 - 1) / k := Int.ediv_nonneg (by omega) (by omega)
      omega
    · have : L = 0 := by omega
      subst this
      rw [Int.ediv_eq_zero_of_lt (by omega) (by omega)]; rfl
  refine ⟨by omega, by omega, ?_, e⟩
  have hb : (L + k - 1) / k ≤ L + k - 1 := Int.ediv_le_self _ (by omega)
  unfold Builtin.Range.small
  rw [e]
  simp only [Builtin.Range.rangeFitsLong, Bool.and_eq_true, Bool.or_eq_true, decide_eq_true_eq, beq_iff_eq, show (k > 0) = True from eq_true hk, if_true]
  omega
theorem s_wipe {σ2 : L2.St} {vs : List Nat} {R : Prop} (h : wipe σ2 vs = wipe σ vs) (q : R) : wipe σ2 vs = wipe σ vs ∧ R := ⟨h, q⟩
theorem s_yes {Q : Bool → Hp → Prop} (q : Q true H) : tYes σ H Q := q
/-- within a comprehension: what has been made so far stands at D -/
structure LcP (S : Addr → Prop) (F H : Hp) (Dd : Addr) (R : Nat → List V → Hp → Hp → Prop) (i : Nat) (Hc : Hp) : Prop where
  ex : ∃ Fc acc, Stp S F H Fc Hc ∧ Fc Dd = none ∧ Hc Dd = some (.lst acc) ∧ acc.length ≤ i ∧ R i acc Fc Hc
  fresh : H Dd = none
theorem lcW {J : It} {n : Nat} {G : Hp → Prop} {Y : Nat → Hp → V → Hp → Prop} {g : TG} {tt : TT} {te : TE} {vs : List Nat} (w : Walk J n G Y) (S : Addr → Prop) (hF : Same F H) (hS : ∀ b, S b → ∃ o, H b = some o)
    (hG : ∀ F1 H1, Stp S F H F1 H1 → G H1) (R : Nat → List V → Hp → Hp → Prop) (hR : ∀ i acc F1 H1 d o, ¬ S d → F1 d = none → Stp S F H F1 H1 → R i acc F1 H1 → R i acc F1 (upd H1 d o)) (h0 : R 0 [] F H)
    (hs : ∀ i x acc d F1 H1 H2, i < n → Y i H1 x H2 → H d = none → ¬ S d → Stp S F H F1 H1 → F1 d = none → H1 d = some (.lst acc) → acc.length ≤ i → R i acc F1 H1 → g x (wipe σ vs) H2 fun σ2 H3 => wipe σ2 vs = wipe σ vs ∧ tt σ2 H3 fun b H4 =>
      if b = true then te σ2 H4 fun y H5 => ∃ acc', H5 d = some (.lst acc') ∧ acc'.length < sizeLine ∧ LcP S F H d R (i + 1) (upd H5 d (.lst (acc' ++ [y]))) else LcP S F H d R (i + 1) H4)
    (hd : ∀ d acc F0 F1 H1, Stp S F H F0 H1 → H d = none → F0 d = none → F1 = upd F0 d (.lst acc) → Stp S F H F1 H1 → acc.length ≤ n → R n acc F0 H1 → Q (.ref d) H1) : lcT J g tt te vs σ H Q := by
  intro d hd0
  have nS : ¬ S d := fun z => by
    obtain ⟨o, e⟩ := hS d z
    rw [hd0] at e; cases e
  refine lc_it w (LcP S F H d R) ⟨⟨F, [], Stp.cell hF hd0, hF.free hd0, upd_same, Nat.le_refl _, hR 0 [] F H d _ nS (hF.free hd0) (.rfl' hF) h0⟩, hd0⟩ (fun i H1 _ p => ?_) (fun i x H1 H2 hi p y => ?_) (fun H1 p => ?_)
  · obtain ⟨⟨Fc, acc, st, _⟩, _⟩ := p
    exact hG _ _ st
  · obtain ⟨⟨Fc, acc, st, f0, e, hl, r⟩, _⟩ := p
    exact hs i x acc d Fc H1 H2 hi y hd0 nS st f0 e hl r
  · obtain ⟨⟨Fc, acc, st, f0, e, hl, r⟩, _⟩ := p
    exact hd d acc Fc _ H1 st hd0 f0 rfl (st.freeze hd0 e f0) hl r
theorem lc_end {S : Addr → Prop} {R : Nat → List V → Hp → Hp → Prop} {i : Nat} {acc : List V} {d : Addr} {F1 H1 F4 H4 : Hp} {y : V} (hN : H d = none) (nS : ¬ S d) (st : Stp S F H F1 H1) (f0 : F1 d = none) (e : H1 d = some (.lst acc)) (hl : acc.length ≤ i) (hi : i < 100000)
    (s4 : Stp S F1 H1 F4 H4) (r : R (i + 1) (acc ++ [y]) F4 (upd H4 d (.lst (acc ++ [y])))) : ∃ acc', H4 d = some (.lst acc') ∧ acc'.length < sizeLine ∧ LcP S F H d R (i + 1) (upd H4 d (.lst (acc' ++ [y]))) :=
  ⟨acc, s4.keep _ _ nS e, Nat.lt_of_lt_of_le (Nat.lt_of_le_of_lt hl hi) (by decide), ⟨⟨F4, acc ++ [y], (st.trans s4).wrNew hN ((s4.fo _ _ e).trans f0), (s4.fo _ _ e).trans f0, upd_same, by simp; omega, r⟩, hN⟩⟩
theorem lc_skip {S : Addr → Prop} {R : Nat → List V → Hp → Hp → Prop} {i : Nat} {acc : List V} {d : Addr} {F1 H1 F4 H4 : Hp} (hN : H d = none) (nS : ¬ S d) (st : Stp S F H F1 H1) (f0 : F1 d = none) (e : H1 d = some (.lst acc)) (hl : acc.length ≤ i)
    (s4 : Stp S F1 H1 F4 H4) (r : R (i + 1) acc F4 H4) : LcP S F H d R (i + 1) H4 := ⟨⟨F4, acc, st.trans s4, (s4.fo _ _ e).trans f0, s4.keep _ _ nS e, by omega, r⟩, hN⟩
theorem ifd {p A B : Prop} [Decidable p] (a : p → A) (b : ¬ p → B) : if decide p = true then A else B := by
  by_cases h : p
  · rw [if_pos (decide_eq_true h)]; exact a h
  · rw [if_neg (by simp [h])]; exact b h
theorem itNF {A B : Prop} (h : B) : if (!true) = true then A else B := h
theorem itNT {A B : Prop} (h : A) : if (!false) = true then A else B := h
theorem ifn {p A B : Prop} [Decidable p] (a : p → B) (b : ¬ p → A) : if (!decide p) = true then A else B := by
  by_cases h : p
  · rw [if_neg (by simp [h])]; exact a h
  · rw [if_pos (by simp [h])]; exact b h
end
theorem eqv_ints (u v : Int) : PyData.eqv (.tuple [.int u, .int v]) (.tuple [.int u, .int v]) = true := by simp [PyData.eqv, PyData.eqvAll]
/-! ### tests that may be weakened (for while) -/
def MonE (t : TE) : Prop := ∀ σ H (Q Q' : VK), (∀ v H1, Q v H1 → Q' v H1) → t σ H Q → t σ H Q'
def MonT (t : TT) : Prop := ∀ σ H (Q Q' : Bool → Hp → Prop), (∀ b H1, Q b H1 → Q' b H1) → t σ H Q → t σ H Q'
def MonA (t : TA) : Prop := ∀ σ H (Q Q' : List V → Hp → Prop), (∀ vs H1, Q vs H1 → Q' vs H1) → t σ H Q → t σ H Q'
def MonR (r : R2) : Prop := ∀ x y H (Q Q' : VK), (∀ v H1, Q v H1 → Q' v H1) → r x y H Q → r x y H Q'
theorem mon_var {i : Nat} : MonE (tVar i) := fun _ _ _ _ h ⟨v, e, q⟩ => ⟨v, e, h _ _ q⟩
theorem mon_c {v : V} : MonE (tC v) := fun _ _ _ _ h q => h _ _ q
theorem mon_op {r : R2} {a b : TE} (hr : MonR r) (ha : MonE a) (hb : MonE b) : MonE (tOp r a b) := fun σ _ _ _ h q => ha _ _ _ _ (fun x H1 q1 => hb _ _ _ _ (fun y H2 q2 => hr _ _ _ _ _ h q2) q1) q
theorem mon_I0 {g : Int → Int → V} : MonR (rI0 g) := fun _ _ _ _ _ h ⟨i, j, e1, e2, q⟩ => ⟨i, j, e1, e2, h _ _ q⟩
theorem mon_I {C : Int → Int → Prop} {g : Int → Int → V} : MonR (rI C g) := fun _ _ _ _ _ h ⟨i, j, e1, e2, c, q⟩ => ⟨i, j, e1, e2, c, h _ _ q⟩
theorem mon_eq : MonR rEq := fun _ _ _ _ _ h ⟨e, q⟩ => ⟨e, h _ _ q⟩
theorem mon_ne : MonR rNe := fun _ _ _ _ _ h ⟨e, q⟩ => ⟨e, h _ _ q⟩
theorem mon_ixL {K : PySem.W.Frag} : MonR (rIxL K) := fun _ _ _ _ _ h ⟨p, xs, i, v, e1, e2, s, a, q⟩ => ⟨p, xs, i, v, e1, e2, s, a, h _ _ q⟩
theorem mon_nil : MonA tNil := fun _ _ _ _ h q => h _ _ q
theorem mon_cons {a : TE} {t : TA} (ha : MonE a) (ht : MonA t) : MonA (tCons a t) := fun σ _ _ _ h q => ha _ _ _ _ (fun x H1 q1 => ht _ _ _ _ (fun xs H2 q2 => h _ _ q2) q1) q
theorem mon_len {K : PySem.W.Frag} {t : TA} (ht : MonA t) : MonE (tCB (rLen K) t) := fun σ _ _ _ h q => ht _ _ _ _ (fun vs H1 ⟨p, ys, e, s, q1⟩ => ⟨p, ys, e, s, h _ _ q1⟩) q
theorem mon_test {a : TE} (ha : MonE a) : MonT (tTest a) := fun σ _ _ _ h q => ha _ _ _ _ (fun x H1 ⟨k, e, q1⟩ => ⟨k, e, h _ _ q1⟩) q
theorem mon_and {a b : TT} (ha : MonT a) (hb : MonT b) : MonT (tAnd a b) := fun σ _ _ _ h q => ha _ _ _ _ (fun c H1 q1 => by
  cases c with
  | true => exact hb _ _ _ _ h q1
  | false => exact h _ _ q1) q
theorem whileM {D : Ends} {σ : L2.St} {H : Hp} {c : TT} {tb : TS} (m : MonT c) (Pv : L2.St → Hp → Prop) (μ : L2.St → Hp → Nat) (h0 : Pv σ H)
    (hs : ∀ σ H, Pv σ H → c σ H fun b H1 => if b = true then tb { D with nx := fun σ' H' => Pv σ' H' ∧ μ σ' H' < μ σ H, ct := fun σ' H' => Pv σ' H' ∧ μ σ' H' < μ σ H, bk := D.nx } σ H1 else D.nx σ H1) : tWhile c tb D σ H := while_by Pv μ h0 hs m
/-! ### data compared: lists and tuples of numbers -/
open PyData in
theorem depthAll_ints : ∀ ns : List Int, depthAll (ns.map PyData.int) ≤ 1
  | [] => by simp [depthAll]
  | n :: ns => by
    have := depthAll_ints ns
    simp only [List.map_cons, depthAll, depth]
    omega
open PyData in
theorem canLay_ints : ∀ ns : List Int, canLayAll0 (ns.map PyData.int) = true
  | [] => rfl
  | n :: ns => by simp [canLayAll0, canLay0, canLay_ints ns]
theorem shaped_ints (ns : List Int) : SeqAt.shaped (.list (ns.map .int)) = true := by
  have h := depthAll_ints ns
  have e : (PyData.list (ns.map .int)).depth = PyData.depthAll (ns.map .int) + 1 := by rw [PyData.depth]
  exact Bool.and_eq_true_iff.mpr ⟨by rw [PyData.canLay0]; exact canLay_ints ns, decide_eq_true (by rw [e]; omega)⟩
theorem shaped_intsT (ns : List Int) : SeqAt.shaped (.tuple (ns.map .int)) = true := by
  have h := depthAll_ints ns
  have e : (PyData.tuple (ns.map .int)).depth = PyData.depthAll (ns.map .int) + 1 := by rw [PyData.depth]
  exact Bool.and_eq_true_iff.mpr ⟨by rw [PyData.canLay0]; exact canLay_ints ns, decide_eq_true (by rw [e]; omega)⟩
open PyData in
theorem eqvAll_ints : ∀ ns ms : List Int, eqvAll (ns.map PyData.int) (ms.map PyData.int) = decide (ns = ms)
  | [], [] => rfl
  | [], _ :: _ => by simp [eqvAll]
  | _ :: _, [] => by simp [eqvAll]
  | n :: ns, m :: ms => by
    simp only [List.map_cons, eqvAll, eqv, eqvAll_ints ns ms]
    by_cases h : n = m <;> by_cases h2 : ns = ms <;> simp [h, h2]
theorem eqv_intsL (ns ms : List Int) : PyData.eqv (.list (ns.map .int)) (.list (ms.map .int)) = decide (ns = ms) := by rw [PyData.eqv, eqvAll_ints]
theorem eqv_intsT (ns ms : List Int) : PyData.eqv (.tuple (ns.map .int)) (.tuple (ms.map .int)) = decide (ns = ms) := by rw [PyData.eqv, eqvAll_ints]
theorem dp_all_ints {K : PySem.W.Frag} {H : Hp} : ∀ ns : List Int, DpAll K H (ns.map V.int) (ns.map .int)
  | [] => .nil
  | n :: ns => .cons (.int n) (dp_all_ints ns)
theorem dp_ints {K : PySem.W.Frag} {H : Hp} {a : Addr} {ns : List Int} (h : SqL K H a (ns.map V.int)) : Dp K H (.ref a) (.list (ns.map .int)) := .lst h (dp_all_ints ns)
theorem dp_intsT {K : PySem.W.Frag} {H : Hp} {a : Addr} {ns : List Int} (h : SqT K H a (ns.map V.int)) : Dp K H (.ref a) (.tuple (ns.map .int)) := .tup h (dp_all_ints ns)
/-- two lists of numbers compared -/
theorem s_eqL {K : PySem.W.Frag} {H : Hp} {Q : VK} {a b : Addr} {ns ms : List Int} (h1 : SqL K H a (ns.map V.int)) (h2 : SqL K H b (ms.map V.int)) (q : Q (.bl (decide (ns = ms))) H) : rEqD K (.ref a) (.ref b) H Q :=
  s_eqD (dp_ints h1) (dp_ints h2) (shaped_ints _) (shaped_ints _) (by rw [eqv_intsL]; exact q)
theorem s_neL {K : PySem.W.Frag} {H : Hp} {Q : VK} {a b : Addr} {ns ms : List Int} (h1 : SqL K H a (ns.map V.int)) (h2 : SqL K H b (ms.map V.int)) (q : Q (.bl (!decide (ns = ms))) H) : rNeD K (.ref a) (.ref b) H Q :=
  ⟨_, _, dp_ints h1, dp_ints h2, shaped_ints _, shaped_ints _, by rw [eqv_intsL]; exact q⟩
theorem s_eqT {K : PySem.W.Frag} {H : Hp} {Q : VK} {a b : Addr} {ns ms : List Int} (h1 : SqT K H a (ns.map V.int)) (h2 : SqT K H b (ms.map V.int)) (q : Q (.bl (decide (ns = ms))) H) : rEqD K (.ref a) (.ref b) H Q :=
  s_eqD (dp_intsT h1) (dp_intsT h2) (shaped_intsT _) (shaped_intsT _) (by rw [eqv_intsT]; exact q)
theorem s_neT {K : PySem.W.Frag} {H : Hp} {Q : VK} {a b : Addr} {ns ms : List Int} (h1 : SqT K H a (ns.map V.int)) (h2 : SqT K H b (ms.map V.int)) (q : Q (.bl (!decide (ns = ms))) H) : rNeD K (.ref a) (.ref b) H Q :=
  ⟨_, _, dp_intsT h1, dp_intsT h2, shaped_intsT _, shaped_intsT _, by rw [eqv_intsT]; exact q⟩
theorem rep_int (n k : Nat) (b : Int) : (List.replicate n [V.int b]).flatten = (List.replicate n b).map V.int := by induction n <;> simp_all [List.replicate_succ]
theorem get_int {ns : List Int} {i : Nat} (h : i < ns.length) : (ns.map V.int)[i]? = some (V.int ns[i]) := by simp [h]
/-- what a call left behind: a new thing that stands still from now on -/
theorem Stp.got {S : Addr → Prop} {F H H' : Hp} {p : Addr} {o : HO} (h : Same F H) (s : Same H H') (hn : H p = none) (hp : H' p = some o) : Stp S F H (upd F p o) H' := by
  have fp : F p = none := h.free hn
  refine ⟨fun b u e => by rw [upd_ne (ne_of_none e fp)]; exact e, fun b u e => ?_, fun b u e => by rw [upd_ne (ne_of_none e hn)], fun b u _ e => s b u e, fun b u e => ⟨u, s b u e⟩⟩
  by_cases q : b = p
  · subst q; rw [upd_same] at e; cases e; exact hp
  · rw [upd_ne q] at e; exact s b u (h b u e)
open PyData in
theorem depthAll_bools : ∀ ns : List Bool, depthAll (ns.map PyData.bool) ≤ 1
  | [] => by simp [depthAll]
  | n :: ns => by
    have := depthAll_bools ns
    simp only [List.map_cons, depthAll, depth]
    omega
open PyData in
theorem canLay_bools : ∀ ns : List Bool, canLayAll0 (ns.map PyData.bool) = true
  | [] => rfl
  | n :: ns => by simp [canLayAll0, canLay0, canLay_bools ns]
theorem shaped_bools (ns : List Bool) : SeqAt.shaped (.list (ns.map .bool)) = true := by
  have h := depthAll_bools ns
  have e : (PyData.list (ns.map .bool)).depth = PyData.depthAll (ns.map .bool) + 1 := by rw [PyData.depth]
  exact Bool.and_eq_true_iff.mpr ⟨by rw [PyData.canLay0]; exact canLay_bools ns, decide_eq_true (by rw [e]; omega)⟩
open PyData in
theorem eqvAll_bools : ∀ ns ms : List Bool, eqvAll (ns.map PyData.bool) (ms.map PyData.bool) = decide (ns = ms)
  | [], [] => rfl
  | [], _ :: _ => by simp [eqvAll]
  | _ :: _, [] => by simp [eqvAll]
  | n :: ns, m :: ms => by
    simp only [List.map_cons, eqvAll, eqv, eqvAll_bools ns ms]
    by_cases h : n = m <;> by_cases h2 : ns = ms <;> simp [h, h2]
theorem eqv_boolsL (ns ms : List Bool) : PyData.eqv (.list (ns.map .bool)) (.list (ms.map .bool)) = decide (ns = ms) := by rw [PyData.eqv, eqvAll_bools]
theorem dp_all_bools {K : PySem.W.Frag} {H : Hp} : ∀ ns : List Bool, DpAll K H (ns.map V.bl) (ns.map .bool)
  | [] => .nil
  | n :: ns => .cons (.bl n) (dp_all_bools ns)
theorem dp_bools {K : PySem.W.Frag} {H : Hp} {a : Addr} {ns : List Bool} (h : SqL K H a (ns.map V.bl)) : Dp K H (.ref a) (.list (ns.map .bool)) := .lst h (dp_all_bools ns)
theorem s_neB {K : PySem.W.Frag} {H : Hp} {Q : VK} {a b : Addr} {ns ms : List Bool} (h1 : SqL K H a (ns.map V.bl)) (h2 : SqL K H b (ms.map V.bl)) (q : Q (.bl (!decide (ns = ms))) H) : rNeD K (.ref a) (.ref b) H Q :=
  ⟨_, _, dp_bools h1, dp_bools h2, shaped_bools _, shaped_bools _, by rw [eqv_boolsL]; exact q⟩
theorem eqV_int (i j : Int) : eqV (.int i) (.int j) = decide (i = j) := by
  show (i == j) = decide (i = j)
  by_cases h : i = j <;> simp [h]
theorem inV_ints (x : Int) (ns : List Int) : inV (.int x) (ns.map V.int) = decide (x ∈ ns) := by
  unfold inV
  induction ns with
  | nil => simp
  | cons n ns ih =>
    rw [List.map_cons, List.any_cons, ih, eqV_int]
    by_cases h : n = x
    · subst h; simp
    · by_cases h2 : x ∈ ns
      · simp [h2]
      · have : ¬ x = n := fun z => h z.symm
        simp [h, h2, this]
theorem flat_ints (ns : List Int) : (ns.map V.int).all flatV = true := by
  rw [List.all_eq_true]; intro v hv
  obtain ⟨n, _, rfl⟩ := List.mem_map.mp hv
  rfl
/-- a number in a list of numbers -/
theorem s_inI {K : PySem.W.Frag} {H : Hp} {Q : VK} {a : Addr} {ns : List Int} {x : Int} (h : SqL K H a (ns.map V.int)) (q : Q (.bl (decide (x ∈ ns))) H) : rIn K false (.int x) (.ref a) H Q :=
  ⟨a, _, rfl, .inl h, rfl, flat_ints ns, by rw [if_neg (by decide), inV_ints]; exact q⟩
theorem cutV_nat (xs : List V) (i j : Nat) : cutV xs (some (i : Int)) (some (j : Int)) = (xs.drop i).take (j - i) := by
  unfold cutV
  rw [HT.sIx_nat, HT.sIx_nat]
  by_cases h : i ≤ xs.length
  · rw [Nat.min_eq_left h]
    by_cases h2 : j ≤ xs.length
    · rw [Nat.min_eq_left h2]
    · rw [Nat.min_eq_right (by omega), List.take_of_length_le (by simp), List.take_of_length_le (by simp; omega)]
  · rw [Nat.min_eq_right (show xs.length ≤ i by omega), List.drop_of_length_le (Nat.le_refl _), List.drop_of_length_le (by omega)]; simp
theorem cutV_from (xs : List V) (i : Nat) : cutV xs (some (i : Int)) none = xs.drop i := by
  unfold cutV
  rw [HT.sIx_nat, HT.sIx_none]
  by_cases h : i ≤ xs.length
  · rw [Nat.min_eq_left h, List.take_of_length_le (by simp)]
  · rw [Nat.min_eq_right (by omega), List.drop_of_length_le (by omega), List.drop_of_length_le (by omega)]; simp
theorem cutV_to (xs : List V) (j : Nat) : cutV xs none (some (j : Int)) = xs.take j := by
  unfold cutV
  rw [HT.sIx_nat, HT.sIx_none]
  by_cases h2 : j ≤ xs.length
  · rw [Nat.min_eq_left h2]; simp
  · rw [Nat.min_eq_right (by omega), List.take_of_length_le (by simp), List.take_of_length_le (by omega)]; simp
/-- values without parts, as data -/
def toD : V → PyData
  | .bl b => .bool b
  | .int i => .int i
  | .str s => .str s
  | _ => .none
def flatW (v : V) : Bool := match v with
  | .non => true
  | .bl _ => true
  | .int _ => true
  | .str s => PyData.strOk s
  | _ => false
theorem dp_flat {K : PySem.W.Frag} {H : Hp} {v : V} (h : flatW v = true) : Dp K H v (toD v) := by
  cases v with
  | non => exact .non
  | bl b => exact .bl b
  | int i => exact .int i
  | str s => exact .str s
  | _ => cases h
theorem dp_flats {K : PySem.W.Frag} {H : Hp} : ∀ {vs : List V}, vs.all flatW = true → DpAll K H vs (vs.map toD)
  | [], _ => .nil
  | v :: vs, h => by
    rw [List.all_cons, Bool.and_eq_true] at h
    exact .cons (dp_flat h.1) (dp_flats h.2)
open PyData in
theorem depthAll_flat : ∀ vs : List V, depthAll (vs.map toD) ≤ 1
  | [] => by simp [depthAll]
  | n :: ns => by
    have := depthAll_flat ns
    have e : depth (toD n) = 0 := by cases n <;> simp [toD, depth]
    simp only [List.map_cons, depthAll, e]
    omega
open PyData in
theorem canLay_flat : ∀ vs : List V, vs.all flatW = true → canLayAll0 (vs.map toD) = true
  | [], _ => rfl
  | n :: ns, h => by
    rw [List.all_cons, Bool.and_eq_true] at h
    have e : canLay0 (toD n) = true := by
      cases n with
      | str s => exact h.1
      | _ => rfl
    simp [canLayAll0, e, canLay_flat ns h.2]
theorem shaped_flatT {vs : List V} (h : vs.all flatW = true) : SeqAt.shaped (.tuple (vs.map toD)) = true := by
  have h1 := depthAll_flat vs
  have e : (PyData.tuple (vs.map toD)).depth = PyData.depthAll (vs.map toD) + 1 := by rw [PyData.depth]
  exact Bool.and_eq_true_iff.mpr ⟨by rw [PyData.canLay0]; exact canLay_flat vs h, decide_eq_true (by rw [e]; omega)⟩
/-- two equal tuples compared -/
theorem s_neTs {K : PySem.W.Frag} {H : Hp} {Q : VK} {a b : Addr} {vs : List V} (h1 : SqT K H a vs) (h2 : SqT K H b vs) (f : vs.all flatW = true) (q : Q (.bl false) H) : rNeD K (.ref a) (.ref b) H Q :=
  ⟨_, _, .tup h1 (dp_flats f), .tup h2 (dp_flats f), shaped_flatT f, shaped_flatT f, by rw [SeqAt.eqv_refl _ (SeqAt.canLay_of_shaped (shaped_flatT f))]; exact q⟩
theorem s_eqTs {K : PySem.W.Frag} {H : Hp} {Q : VK} {a b : Addr} {vs : List V} (h1 : SqT K H a vs) (h2 : SqT K H b vs) (f : vs.all flatW = true) (q : Q (.bl true) H) : rEqD K (.ref a) (.ref b) H Q :=
  ⟨_, _, .tup h1 (dp_flats f), .tup h2 (dp_flats f), shaped_flatT f, shaped_flatT f, by rw [SeqAt.eqv_refl _ (SeqAt.canLay_of_shaped (shaped_flatT f))]; exact q⟩
/-- a written list of one thing, so many times -/
theorem s_rep {H : Hp} {Q : VK} {l : Addr} {v : V} {k : Int} (h : H l = some (.lst [v])) (k1 : k ≤ 100000) (k0 : -100000 ≤ k) (q : ∀ p, H p = none → Q (.ref p) (upd H p (.lst (List.replicate k.toNat v)))) : rRep (.ref l) (.int k) H Q := by
  have e : (List.replicate k.toNat [v]).flatten = List.replicate k.toNat v := by
    generalize k.toNat = n
    induction n with
    | zero => rfl
    | succ n ih => rw [List.replicate_succ, List.flatten_cons, ih]; rfl
  have hz : 1 * k.toNat ≤ sizeLine := by rw [Nat.one_mul]; exact sz (by omega)
  exact ⟨l, k, [v], rfl, rfl, h, by omega, by omega, hz, fun p hp => by rw [e]; exact q p hp⟩
/-! ### a list to draw from: [a great number, a number that is stirred] -/
def Src (F H : Hp) (p : Addr) : Prop := Same F H ∧ F p = none ∧ ∃ a b : Int, H p = some (.lst [.int a, .int b]) ∧ 0 ≤ b ∧ b < 2147483647
theorem Src.of {F H H' : Hp} {p : Addr} (h : Src F H p) (s : Same H H') : Src F H' p := let ⟨a, b, x, y, e, z⟩ := h; ⟨a.trans s, b, x, y, s _ _ e, z⟩
theorem Src.wr {F H : Hp} {p : Addr} {x y : Int} (h : Src F H p) (y0 : 0 ≤ y) (y1 : y < 2147483647) : Src F (upd H p (.lst [.int x, .int y])) p :=
  ⟨(Stp.wr (S := S1 p) h.1 rfl h.2.1).fh, h.2.1, x, y, upd_same, y0, y1⟩
theorem Src.weak {F F' H : Hp} {p : Addr} (h : Src F' H p) (s : Same F F') : Src F H p := let ⟨a, b, x⟩ := h; ⟨s.trans a, s.free b, x⟩
theorem Src.new {F H : Hp} {p q : Addr} {o : HO} (h : Src F H p) (hq : H q = none) : Src (upd F q o) (upd H q o) p := by
  obtain ⟨a, b, x, y, e, z⟩ := h
  have n : p ≠ q := ne_of_none e hq
  exact ⟨(Stp.new (S := S0) a hq).fh, by rw [upd_ne n]; exact b, x, y, by rw [upd_ne n]; exact e, z⟩
/-- a cell beside it is written -/
theorem Src.upd {F H : Hp} {p q : Addr} {o : HO} (h : Src F H p) (n : q ≠ p) (fq : F q = none) : Src F (upd H q o) p := by
  obtain ⟨a, b, x, y, e, z⟩ := h
  exact ⟨(Stp.wr (S := S1 q) a rfl fq).fh, b, x, y, by rw [upd_ne n.symm]; exact e, z⟩
theorem Src.dom {F H : Hp} {p : Addr} (h : Src F H p) : ∃ o, H p = some o := let ⟨_, _, x, y, e, _⟩ := h; ⟨_, e⟩
theorem Src.frz {F H : Hp} {p d : Addr} {o : HO} (h : Src F H p) (n : p ≠ d) (fh : Same (L2.upd F d o) H) : Src (L2.upd F d o) H p := by
  obtain ⟨a, b, x, y, e, z⟩ := h
  exact ⟨fh, by rw [upd_ne n]; exact b, x, y, e, z⟩
theorem Src.ne {F H : Hp} {p d : Addr} (h : Src F H p) (hd : H d = none) : p ≠ d := by
  obtain ⟨o, e⟩ := h.dom
  exact ne_of_none e hd
/-- behind a draw: what stands beside the cell is as it was -/
def Drawn (p : Addr) (F H H' : Hp) : Prop := Src F H' p ∧ Stp (S1 p) F H F H'
section SecFmt
open PySem PySem.Spec PyProof.Rows L2
/-- the binary digits of a number that is not negative, as a text -/
def binText (n : Nat) : Str := ⟨((Nat.toDigits 2 n).map Char.toNat).toArray⟩
def fB : Builtin.Float.FormatSpec := { align := 62, type := some 98 }
theorem parseB : Builtin.Float.parseFormatSpec (Str.ofString "b").cps.toList "int" 62 = Except.ok fB := by rfl
section
variable {prog : Program} {w : World} {A : Around} {E : Value → Shared → Prop} {s : Shared}
theorem ite_no {β : Type} {M : Model} {c : Prop} [Decidable c] {x y : Sem β} {Q : β → Shared → Prop} (h : ¬ c) (q : wpAny M A y Q E s) : wpAny M A (if c then x else y) Q E s := by rw [if_neg h]; exact q
theorem field_b {a : Int} {t : Tok} {Q : Value → Shared → Prop} (h0 : 0 ≤ a) (hl : (Nat.toDigits 2 a.natAbs).length ≤ 100000)
    (h : Q (.str (binText a.natAbs) (s.toks + 1)) { s with toks := s.toks + 1 + 1 }) : wpAny (model prog w) A (formatField (.int a t) (Str.ofString "b")) Q E s := by
  show wpAny _ _ (holding [.int a t] (pyFormat (.int a t) (Str.ofString "b"))) Q E s
  refine wpAny_holding ?_
  unfold pyFormat
  refine wpAny_bind (wpAny_mkStr ?_ (by decide))
  refine wpAny_bind (m := callSpecial? (.int a t) (Str.ofString "__format__") [.str (Str.ofString "b") s.toks])
    (wpAny_callSpecial?_slot (name := Str.ofString "__format__") (typeIs_int _ a t) slot_int_format ?_)
  refine wpAny_call (codeAny_call_builtin slot_int_format.plain entry_int_format
    (slot_int_format.check _ _ _ _ _ _ _ _ (typeIs_int _ a t) (args_int_format _ _) ?_))
  have hne : ((Str.ofString "b").length == 0) = false := by decide
  have hasc : (((Str.ofString "b").cps.toList.drop 1).any (· ≥ 128) || ((Str.ofString "b").cps.getD 0 0 ≥ 128 && !([60, 62, 61, 94] : List Nat).contains ((Str.ofString "b").cps.getD 1 0))) = false := by decide
  unfold Builtin.«int.__format__»
  simp only [selfAndOne, noKeywords, Builtin.Int.intOfSelf, asInt?, asStr?, List.isEmpty_nil, if_true, pure_bind, bind_pure, bind_assoc, hne, hasc, Bool.false_eq_true,
    if_false, show (Value.str (Str.ofString "b") s.toks == Value.none) = false from rfl]
  refine wpAny_bind (wpAny_typeNameOf (T := "str") (typeIs_str _ _ _) (by decide) fun _ => ?_)
  first | refine wpAny_bind (wpAny_typeNameOfCut_int ?_) | refine wpAny_bind (wpAny_typeNameOf_int ?_)
  simp only [parseB, fB]
  rw [if_pos (by decide)]
  simp only [Option.getD_some]
  show wpAny _ _ (retStr _) _ _ _
  unfold retStr
  have key : ∀ (x : Str), x = binText a.natAbs → x.length ≤ sizeLine ∧ Q (.str x (s.toks + 1)) { s with toks := s.toks + 1 + 1 } := fun x e => by
    subst e
    exact ⟨Nat.le_trans (by simpa [binText, Str.length] using hl) (by decide), h⟩
  refine wpAny_bind (wpAny_mkStr (wpAny_pure ?_) (key _ ?hs2).1)
  case hs2 =>
    conv => lhs; whnf
    have hneg : decide (a < 0) = false := by simpa using h0
    simp [hneg, binText]
  dsimp only
  refine wpAny_bind (wpAny_isInstance (typeIs_str _ _ _) isSubtype_str_str (wpAny_pure ?_))
  refine (key _ ?_).2
  conv => lhs; whnf
  have hneg : decide (a < 0) = false := by simpa using h0
  simp [hneg, binText]
end
section
variable {X : Cx}
/-- {n:b} -/
def tFmtB (te : TE) : TE := fun σ H Q => te σ H fun x H1 => ∃ i : Int, x = .int i ∧ 0 ≤ i ∧ (Nat.toDigits 2 i.natAbs).length ≤ 100000 ∧ Q (.str (binText i.natAbs)) H1
theorem pe_fmtB {e : Expr} {te : TE} {k : Nat} {p1 p2 pos : Pos} (he : PE X e te) : PE X (.FormattedValue e (-1) (some (.JoinedStr [.Constant (.str "b") k p1] p2)) pos) (tFmtB te) := by
  refine ⟨fun pins s σ H Q I h => ?_⟩
  refine wpAny_FormattedValue_spec (thn (he.run pins s σ H _ I h) fun v s1 hv => ?_)
  obtain ⟨x, H1, I1, r1, i, rfl, h0, hl, q⟩ := hv
  obtain ⟨t, rfl⟩ := r1
  have hp : PE X (.JoinedStr [.Constant (.str "b") k p1] p2) (tC (.str "b")) := pe_joined1 pe_str
  refine thn (hp.run pins s1 σ H1 (fun v H' => v = .str "b" ∧ H' = H1) I1 ⟨rfl, rfl⟩) fun r s2 hr => ?_
  obtain ⟨y, H2, I2, r2, rfl, rfl⟩ := hr
  obtain ⟨u, rfl⟩ := r2
  exact ⟨_, _, rfl, field_b h0 hl ⟨.str (binText i.natAbs), H2, I2.tok _, ⟨_, rfl⟩, q⟩⟩
end
end SecFmt
section SecBits
open PySem PySem.Spec PyProof.Rows L2
/-! ### binary digits -/
/-- the w lowest binary digits of n, the highest first -/
def fixL : Nat → Nat → List Int
  | 0, _ => []
  | w + 1, n => fixL w (n / 2) ++ [((n % 2 : Nat) : Int)]
theorem fixL_len : ∀ (w n : Nat), (fixL w n).length = w
  | 0, _ => rfl
  | w + 1, n => by rw [fixL, List.length_append, fixL_len w]; rfl
def isBit (b : Int) : Prop := b = 0 ∨ b = 1
theorem fixL_bit : ∀ (w n : Nat), ∀ b ∈ fixL w n, isBit b
  | 0, _, b, h => by simp [fixL] at h
  | w + 1, n, b, h => by
    rw [fixL, List.mem_append] at h
    rcases h with h | h
    · exact fixL_bit w _ b h
    · have : b = ((n % 2 : Nat) : Int) := by simpa using h
      have h2 : n % 2 < 2 := Nat.mod_lt _ (by decide)
      unfold isBit; omega
def code (b : Int) : Nat := (48 + b).toNat
def digs (n : Nat) : List Nat := (Nat.toDigits 2 n).map Char.toNat
theorem digs_small {n : Nat} (h : n < 2) : digs n = [48 + n] := by
  unfold digs; rw [Nat.toDigits_of_lt_base h]
  rcases (by omega : n = 0 ∨ n = 1) with rfl | rfl <;> rfl
theorem digs_step {n : Nat} (h : 2 ≤ n) : digs n = digs (n / 2) ++ [48 + n % 2] := by
  unfold digs; rw [Nat.toDigits_of_base_le (by decide) h, List.map_append]
  congr 1
  rcases (by omega : n % 2 = 0 ∨ n % 2 = 1) with e | e <;> rw [e] <;> rfl
theorem fixL_zero : ∀ w, (fixL w 0).map code = List.replicate w 48
  | 0 => rfl
  | w + 1 => by rw [fixL, List.map_append, fixL_zero w, List.replicate_succ']; rfl
theorem digs_fix : ∀ (w n : Nat), n < 2 ^ (w + 1) → (digs n).length ≤ w + 1 ∧ List.replicate (w + 1 - (digs n).length) 48 ++ digs n = (fixL (w + 1) n).map code
  | 0, n, h => by
    have h2 : n < 2 := by simpa using h
    rw [digs_small h2]
    rcases (by omega : n = 0 ∨ n = 1) with rfl | rfl <;> exact ⟨by decide, by decide⟩
  | w + 1, n, h => by
    by_cases h2 : n < 2
    · rw [digs_small h2]
      refine ⟨by simp, ?_⟩
      rw [fixL, List.map_append, show n / 2 = 0 by omega, fixL_zero]
      show List.replicate (w + 1) 48 ++ [48 + n] = _
      congr 1
      rcases (by omega : n = 0 ∨ n = 1) with rfl | rfl <;> rfl
    · have hp : n / 2 < 2 ^ (w + 1) := by rw [Nat.pow_succ] at h; omega
      obtain ⟨h3, h4⟩ := digs_fix w (n / 2) hp
      rw [digs_step (by omega), fixL, List.map_append, ← h4]
      refine ⟨by simp; omega, ?_⟩
      rw [List.length_append, List.length_singleton, show w + 1 + 1 - ((digs (n / 2)).length + 1) = w + 1 - (digs (n / 2)).length by omega, List.append_assoc]
      congr 2
theorem digs_head {n : Nat} : (digs n)[0]? = some 48 ∨ (digs n)[0]? = some 49 := by
  induction n using Nat.strongRecOn with
  | ind n ih =>
    by_cases h : n < 2
    · rw [digs_small h]; rcases (by omega : n = 0 ∨ n = 1) with rfl | rfl <;> simp
    · rw [digs_step (by omega)]
      have := ih (n / 2) (by omega)
      have hl : 0 < (digs (n / 2)).length := by
        cases e : digs (n / 2) with
        | nil => rw [e] at this; simp at this
        | cons => simp
      rw [List.getElem?_append_left hl]; exact this
theorem zfill_bin {w n : Nat} (h : n < 2 ^ (w + 1)) : (Txt.zfill (binText n) ((w + 1 : Nat) : Int)).cps.toList = (fixL (w + 1) n).map code := by
  obtain ⟨h1, h2⟩ := digs_fix w n h
  have hl : (binText n).length = (digs n).length := by simp [binText, Str.length, digs]
  have hc : (binText n).cps.toList = digs n := by simp [binText, digs]
  unfold Txt.zfill
  by_cases q : (((w + 1 : Nat) : Int) ≤ ((binText n).length : Int))
  · rw [if_pos q, hc, ← h2, show w + 1 - (digs n).length = 0 by omega]; rfl
  · rw [if_neg q]
    have e0 : ∀ x, (binText n).cps[0]? = some x → x ≠ 43 ∧ x ≠ 45 := fun x hx => by
      have : (digs n)[0]? = some x := by rw [← hc]; simpa using hx
      rcases digs_head (n := n) with z | z <;> rw [z] at this <;> cases this <;> decide
    unfold zfilled
    split
    · rename_i hx; exact absurd rfl (e0 _ hx).1
    · rename_i hx; exact absurd rfl (e0 _ hx).2
    · show (Array.replicate _ 48 ++ (binText n).cps ++ Array.replicate 0 48).toList = _
      rw [← h2]
      simp [hc, hl]
theorem bits_le {w n : Nat} (h : n < 2 ^ (w + 1)) : (Nat.toDigits 2 n).length ≤ w + 1 := by
  have := (digs_fix w n h).1
  simpa [digs] using this
theorem intBits_le {n : Int} {w : Nat} (h0 : 0 ≤ n) : (Builtin.Int.intBits n : Nat) ≤ w ↔ n.toNat < 2 ^ w := by
  unfold Builtin.Int.intBits
  by_cases h : n = 0
  · subst h; simp [Nat.two_pow_pos]
  · rw [if_neg (by simpa using h)]
    have e : n.natAbs = n.toNat := by omega
    rw [e, ← Nat.log2_lt (by omega : n.toNat ≠ 0)]
    omega
/-- the number of a list of digits, the highest first -/
def numL (bs : List Int) : Int := bs.foldl (fun a b => 2 * a + b) 0
theorem numL_snoc (bs : List Int) (b : Int) : numL (bs ++ [b]) = 2 * numL bs + b := by simp [numL, List.foldl_append]
theorem num_fixL : ∀ (w n : Nat), n < 2 ^ w → numL (fixL w n) = (n : Int)
  | 0, n, h => by
    have : n = 0 := by simpa using h
    subst this; rfl
  | w + 1, n, h => by
    rw [fixL, numL_snoc, num_fixL w (n / 2) (by rw [Nat.pow_succ] at h; omega)]
    omega
theorem code_bit {b : Int} (h : isBit b) : code b = 48 ∨ code b = 49 := by rcases h with rfl | rfl <;> decide
theorem text_bit {b : Int} (h : isBit b) : PySem.intText? ⟨#[code b]⟩ = some b := by rcases h with rfl | rfl <;> decide +kernel
/-- the digit at a place -/
theorem fixL_at : ∀ (w n i : Nat), i < w → (fixL w n)[i]? = some ((n / 2 ^ (w - 1 - i) % 2 : Nat) : Int)
  | 0, _, _, h => by omega
  | w + 1, n, i, h => by
    rw [fixL]
    by_cases hi : i < w
    · rw [List.getElem?_append_left (by rw [fixL_len]; exact hi), fixL_at w (n / 2) i hi]
      congr 3
      rw [Nat.div_div_eq_div_mul, show w + 1 - 1 - i = (w - 1 - i) + 1 by omega, Nat.pow_succ, Nat.mul_comm]
    · have : i = w := by omega
      subst this
      rw [List.getElem?_append_right (by rw [fixL_len]; exact Nat.le_refl _), fixL_len]
      simp
end SecBits
theorem s_fmtB {σ : L2.St} {H : Hp} {Q : VK} {te : TE} (h : te σ H fun x H1 => ∃ i : Int, x = .int i ∧ 0 ≤ i ∧ (Nat.toDigits 2 i.natAbs).length ≤ 100000 ∧ Q (.str (binText i.natAbs)) H1) : tFmtB te σ H Q := h
section SecCrc
open PySem PySem.Spec PyProof.Rows L2
/-! ### the check: linear -/
def stp (h b : Nat) : Nat := (2 * h % 256) ^^^ (if (h / 128) ^^^ b = 1 then 7 else 0)
theorem stp_lt (h b : Nat) : stp h b < 256 := by
  unfold stp
  refine Nat.xor_lt_two_pow (n := 8) (Nat.mod_lt _ (by decide)) ?_
  split <;> decide
theorem xor_div_128 (a b : Nat) : (a ^^^ b) / 128 = a / 128 ^^^ b / 128 := by
  have := Nat.shiftRight_xor_distrib (a := a) (b := b) (i := 7)
  rw [Nat.shiftRight_eq_div_pow, Nat.shiftRight_eq_div_pow, Nat.shiftRight_eq_div_pow] at this
  exact this
theorem xor_two (a b : Nat) : 2 * (a ^^^ b) = 2 * a ^^^ 2 * b := by
  have := Nat.shiftLeft_xor_distrib (a := a) (b := b) (i := 1)
  rw [Nat.shiftLeft_eq, Nat.shiftLeft_eq, Nat.shiftLeft_eq] at this
  rw [Nat.mul_comm 2, Nat.mul_comm 2, Nat.mul_comm 2]
  exact this
theorem xor4 (a b c d : Nat) : (a ^^^ b) ^^^ (c ^^^ d) = (a ^^^ c) ^^^ (b ^^^ d) := by
  rw [Nat.xor_assoc, Nat.xor_assoc, ← Nat.xor_assoc b c d, Nat.xor_comm b c, Nat.xor_assoc c b d]
theorem stp_lin {h k b c : Nat} (hh : h < 256) (hk : k < 256) (hb : b < 2) (hc : c < 2) : stp (h ^^^ k) (b ^^^ c) = stp h b ^^^ stp k c := by
  unfold stp
  have h1 : h / 128 < 2 := by omega
  have k1 : k / 128 < 2 := by omega
  have key : ∀ x y : Nat, x < 2 → y < 2 → (if (x ^^^ y) ^^^ (b ^^^ c) = 1 then 7 else 0) = (if x ^^^ b = 1 then 7 else 0) ^^^ (if y ^^^ c = 1 then 7 else 0) := ?_
  · rw [xor_two, xor_div_128, show (256 : Nat) = 2 ^ 8 from rfl, Nat.xor_mod_two_pow, key _ _ h1 k1, xor4]
  intro x y hx hy
  rcases (by omega : x = 0 ∨ x = 1) with rfl | rfl <;> rcases (by omega : y = 0 ∨ y = 1) with rfl | rfl <;> rcases (by omega : b = 0 ∨ b = 1) with rfl | rfl <;> rcases (by omega : c = 0 ∨ c = 1) with rfl | rfl <;> rfl
def cf (h : Nat) (bs : List Int) : Nat := bs.foldl (fun h b => stp h b.toNat) h
def chk (bs : List Int) : Nat := cf 0 bs
theorem cf_lt : ∀ (bs : List Int) (h : Nat), h < 256 → cf h bs < 256
  | [], _, hh => hh
  | b :: bs, h, _ => cf_lt bs _ (stp_lt _ _)
theorem chk_lt (bs : List Int) : chk bs < 256 := cf_lt bs 0 (by decide)
theorem cf_snoc (bs : List Int) (h : Nat) (b : Int) : cf h (bs ++ [b]) = stp (cf h bs) b.toNat := by simp [cf, List.foldl_append]
/-- some bits turned: those at the places E, counted from i -/
def flipL (E : Nat → Bool) : Nat → List Int → List Int
  | _, [] => []
  | i, x :: xs => (if E i then 1 - x else x) :: flipL E (i + 1) xs
theorem flipL_len (E : Nat → Bool) : ∀ (xs : List Int) (i : Nat), (flipL E i xs).length = xs.length
  | [], _ => rfl
  | x :: xs, i => by simp [flipL, flipL_len E xs]
theorem flipL_append (E : Nat → Bool) : ∀ (xs ys : List Int) (i : Nat), flipL E i (xs ++ ys) = flipL E i xs ++ flipL E (i + xs.length) ys
  | [], ys, i => by simp [flipL]
  | x :: xs, ys, i => by simp [flipL, flipL_append E xs ys (i + 1), Nat.add_comm, Nat.add_left_comm]
theorem flipL_at (E : Nat → Bool) : ∀ (xs : List Int) (i j : Nat), (flipL E i xs)[j]? = (xs[j]?).map fun x => if E (i + j) then 1 - x else x
  | [], _, _ => by simp [flipL]
  | x :: xs, i, 0 => by simp [flipL]
  | x :: xs, i, j + 1 => by simp [flipL, flipL_at E xs (i + 1) j, Nat.add_comm, Nat.add_left_comm]
def cfE (E : Nat → Bool) : Nat → Nat → Nat → Nat
  | d, _, 0 => d
  | d, i, n + 1 => cfE E (stp d (E i).toNat) (i + 1) n
theorem toNat_lt (b : Bool) : b.toNat < 2 := by cases b <;> decide
theorem bit_lt {x : Int} (h : isBit x) : x.toNat < 2 := by rcases h with rfl | rfl <;> decide
theorem flip_bit {x : Int} (h : isBit x) (e : Bool) : (if e then 1 - x else x).toNat = x.toNat ^^^ e.toNat := by rcases h with rfl | rfl <;> cases e <;> rfl
theorem cf_flip (E : Nat → Bool) : ∀ (xs : List Int) (h d i : Nat), h < 256 → d < 256 → (∀ x ∈ xs, isBit x) → cf (h ^^^ d) (flipL E i xs) = cf h xs ^^^ cfE E d i xs.length
  | [], _, _, _, _, _, _ => rfl
  | x :: xs, h, d, i, hh, hd, hx => by
    have e : cf (h ^^^ d) (flipL E i (x :: xs)) = cf (stp (h ^^^ d) (if E i then 1 - x else x).toNat) (flipL E (i + 1) xs) := rfl
    rw [e, flip_bit (hx x (by simp)), stp_lin hh hd (bit_lt (hx x (by simp))) (toNat_lt _), cf_flip E xs _ _ _ (stp_lt _ _) (stp_lt _ _) fun y hy => hx y (by simp [hy])]
    rfl
def maskN (E : Nat → Bool) (i : Nat) : Nat → Nat
  | 0 => 0
  | w + 1 => 2 * maskN E i w + (E (i + w)).toNat
theorem xor_half (c m e : Nat) (he : e < 2) : (c ^^^ (2 * m + e)) / 2 = c / 2 ^^^ m ∧ (c ^^^ (2 * m + e)) % 2 = c % 2 ^^^ e := by
  have h1 := Nat.shiftRight_xor_distrib (a := c) (b := 2 * m + e) (i := 1)
  rw [Nat.shiftRight_eq_div_pow, Nat.shiftRight_eq_div_pow, Nat.shiftRight_eq_div_pow] at h1
  have h2 := Nat.xor_mod_two_pow (a := c) (b := 2 * m + e) (n := 1)
  refine ⟨by rw [show (2 : Nat) = 2 ^ 1 from rfl, h1]; congr 1; omega, by rw [show (2 : Nat) = 2 ^ 1 from rfl, h2]; congr 1; omega⟩
theorem fixL_len' : ∀ (w n : Nat), (fixL w n).length = w
  | 0, _ => rfl
  | w + 1, n => by rw [fixL, List.length_append, fixL_len' w]; rfl
theorem flip_fix (E : Nat → Bool) (i : Nat) : ∀ (w c : Nat), flipL E i (fixL w c) = fixL w (c ^^^ maskN E i w)
  | 0, _ => rfl
  | w + 1, c => by
    obtain ⟨h1, h2⟩ := xor_half c (maskN E i w) (E (i + w)).toNat (toNat_lt _)
    rw [fixL, flipL_append, flip_fix E i w, fixL, maskN, h1, h2, fixL_len']
    congr 1
    have : c % 2 < 2 := Nat.mod_lt _ (by decide)
    show [if E (i + w) then 1 - ((c % 2 : Nat) : Int) else ((c % 2 : Nat) : Int)] = _
    rcases (by omega : c % 2 = 0 ∨ c % 2 = 1) with e | e <;> rw [e] <;> cases E (i + w) <;> rfl
/-- what turned bits leave -/
def synd (E : Nat → Bool) : Nat := cfE E 0 0 48 ^^^ maskN E 48 8
abbrev xorE (E G : Nat → Bool) : Nat → Bool := fun i => E i ^^ G i
theorem toNat_xor (a b : Bool) : (a ^^ b).toNat = a.toNat ^^^ b.toNat := by cases a <;> cases b <;> rfl
theorem cfE_lin (E G : Nat → Bool) : ∀ (n d e i : Nat), d < 256 → e < 256 → cfE (xorE E G) (d ^^^ e) i n = cfE E d i n ^^^ cfE G e i n
  | 0, _, _, _, _, _ => rfl
  | n + 1, d, e, i, hd, he => by
    show cfE (xorE E G) (stp (d ^^^ e) (E i ^^ G i).toNat) (i + 1) n = _
    rw [toNat_xor, stp_lin hd he (toNat_lt _) (toNat_lt _), cfE_lin E G n _ _ _ (stp_lt _ _) (stp_lt _ _)]
    rfl
theorem maskN_lin (E G : Nat → Bool) (i : Nat) : ∀ w, maskN (xorE E G) i w = maskN E i w ^^^ maskN G i w
  | 0 => by simp [maskN]
  | w + 1 => by
    show 2 * maskN (xorE E G) i w + (E (i + w) ^^ G (i + w)).toNat = _
    rw [maskN_lin E G i w, toNat_xor]
    obtain ⟨h1, h2⟩ := xor_half (2 * maskN E i w + (E (i + w)).toNat) (maskN G i w) (G (i + w)).toNat (toNat_lt _)
    have t1 := toNat_lt (E (i + w)); have t2 := toNat_lt (G (i + w))
    rw [show (2 * maskN E i w + (E (i + w)).toNat) / 2 = maskN E i w by omega] at h1
    rw [show (2 * maskN E i w + (E (i + w)).toNat) % 2 = (E (i + w)).toNat by omega] at h2
    have l : maskN E i (w + 1) = 2 * maskN E i w + (E (i + w)).toNat := rfl
    have l' : maskN G i (w + 1) = 2 * maskN G i w + (G (i + w)).toNat := rfl
    rw [l, l']
    omega
theorem synd_lin (E G : Nat → Bool) : synd (xorE E G) = synd E ^^^ synd G := by
  unfold synd
  rw [← xor4, ← maskN_lin, ← cfE_lin E G 48 0 0 0 (by decide) (by decide)]
  rfl
theorem cfE_congr {E G : Nat → Bool} : ∀ (n d i : Nat), (∀ j, j < i + n → E j = G j) → cfE E d i n = cfE G d i n
  | 0, _, _, _ => rfl
  | n + 1, d, i, h => by
    show cfE E (stp d (E i).toNat) (i + 1) n = cfE G (stp d (G i).toNat) (i + 1) n
    rw [h i (by omega), cfE_congr n _ _ fun j hj => h j (by omega)]
theorem maskN_congr {E G : Nat → Bool} (i : Nat) : ∀ w, (∀ j, j < i + w → E j = G j) → maskN E i w = maskN G i w
  | 0, _ => rfl
  | w + 1, h => by
    show 2 * maskN E i w + (E (i + w)).toNat = 2 * maskN G i w + (G (i + w)).toNat
    rw [maskN_congr i w fun j hj => h j (by omega), h (i + w) (by omega)]
theorem synd_congr {E G : Nat → Bool} (h : ∀ j, j < 56 → E j = G j) : synd E = synd G := by
  unfold synd
  rw [cfE_congr 48 0 0 fun j hj => h j (by omega), maskN_congr 48 8 fun j hj => h j (by omega)]
def one (x : Nat) : Nat → Bool := fun i => decide (i = x)
theorem xor_zero' {a b : Nat} (e : a ^^^ b = 0) : a = b := by
  have := congrArg (fun z => z ^^^ b) e
  simpa [Nat.xor_assoc] using this
def tb : List Nat := [236, 118, 59, 158, 79, 164, 82, 41, 151, 200, 100, 50, 25, 143, 196, 98, 49, 155, 206, 103, 176, 88, 44, 22, 11, 134, 67, 162, 81, 171, 214, 107, 182, 91, 174, 87, 168, 84, 42, 21, 137, 199, 224, 112, 56, 28, 14, 7, 128, 64, 32, 16, 8, 4, 2, 1]
def T (x : Nat) : Nat := synd (one x)
theorem T_eq : ∀ x < 56, T x = tb.getD x 0 := by decide +kernel
theorem synd_zero : synd (fun _ => false) = 0 := by decide +kernel
theorem tb_ne0 : ∀ x < 56, tb.getD x 0 ≠ 0 := by decide +kernel
theorem tb_ne2 : ∀ x < 56, ∀ y < x, tb.getD x 0 ≠ tb.getD y 0 := by decide +kernel
theorem tb_ne3 : ∀ x < 56, ∀ y < x, (tb.getD x 0 ^^^ tb.getD y 0) ∉ tb := by decide +kernel
def Y (b m : Nat) : Nat := (List.range 8).foldl (fun s j => s ^^^ (if m / 2 ^ j % 2 = 1 then tb.getD (b + j) 0 else 0)) 0
theorem Y_ne0 : ∀ b < 49, ∀ m < 256, m ≠ 0 → Y b m ≠ 0 := by decide +kernel
theorem T_ne0 {x : Nat} (h : x < 56) : T x ≠ 0 := by rw [T_eq x h]; exact tb_ne0 x h
theorem T_ne2 {x y : Nat} (hx : x < 56) (hy : y < 56) (h : x ≠ y) : T x ^^^ T y ≠ 0 := by
  rw [T_eq x hx, T_eq y hy]
  intro e
  have e := xor_zero' e
  rcases Nat.lt_or_gt_of_ne h with z | z
  · exact tb_ne2 y hy x z e.symm
  · exact tb_ne2 x hx y z e
theorem T_ne3 {x y z : Nat} (hx : x < 56) (hy : y < 56) (hz : z < 56) (h : x ≠ y) : T x ^^^ T y ^^^ T z ≠ 0 := by
  rw [T_eq x hx, T_eq y hy, T_eq z hz]
  intro e
  have e := xor_zero' e
  have m : tb.getD z 0 ∈ tb := by
    have hl : z < tb.length := hz
    rw [List.getD_eq_getElem?_getD, List.getElem?_eq_getElem hl]; exact List.getElem_mem hl
  rcases Nat.lt_or_gt_of_ne h with w | w
  · rw [Nat.xor_comm] at e; exact tb_ne3 y hy x w (e ▸ m)
  · exact tb_ne3 x hx y w (e ▸ m)
def ind (L : List Nat) : Nat → Bool := fun i => decide (i ∈ L)
theorem ind1 (x : Nat) : synd (ind [x]) = T x := synd_congr fun j _ => by simp [ind, one]
theorem ind2 {x y : Nat} (h : x ≠ y) : synd (ind [x, y]) = T x ^^^ T y := by
  rw [show T x ^^^ T y = synd (xorE (one x) (one y)) from (synd_lin _ _).symm]
  refine synd_congr fun j _ => ?_
  by_cases a : j = x
  · subst a; simp [ind, one, h]
  · by_cases b : j = y
    · subst b; simp [ind, one, h.symm]
    · simp [ind, one, a, b]
theorem ind3 {x y z : Nat} (h : x ≠ y) (h1 : z ≠ x) (h2 : z ≠ y) : synd (ind [x, y, z]) = T x ^^^ T y ^^^ T z := by
  rw [show T x ^^^ T y ^^^ T z = synd (xorE (xorE (one x) (one y)) (one z)) by rw [synd_lin, synd_lin]; rfl]
  refine synd_congr fun j _ => ?_
  by_cases a : j = x
  · subst a; simp [ind, one, h, h1.symm]
  · by_cases b : j = y
    · subst b; simp [ind, one, h.symm, h2.symm]
    · by_cases c : j = z
      · subst c; simp [ind, one, h1, h2]
      · simp [ind, one, a, b, c]
theorem ind_congr {L M : List Nat} (h : ∀ i, i ∈ L ↔ i ∈ M) : synd (ind L) = synd (ind M) := synd_congr fun j _ => by simp [ind, h j]
theorem synd_small {L : List Nat} (h0 : L ≠ []) (h3 : L.length ≤ 3) (hL : ∀ x ∈ L, x < 56) : synd (ind L) ≠ 0 := by
  match L, h0, h3, hL with
  | [x], _, _, hL => rw [ind1]; exact T_ne0 (hL x (by simp))
  | [x, y], _, _, hL =>
    by_cases h : x = y
    · subst h; rw [ind_congr (M := [x]) (by simp), ind1]; exact T_ne0 (hL x (by simp))
    · rw [ind2 h]; exact T_ne2 (hL x (by simp)) (hL y (by simp)) h
  | [x, y, z], _, _, hL =>
    have hx := hL x (by simp); have hy := hL y (by simp); have hz := hL z (by simp)
    by_cases h : x = y
    · subst h
      by_cases h1 : x = z
      · subst h1; rw [ind_congr (M := [x]) (by simp), ind1]; exact T_ne0 hx
      · rw [ind_congr (M := [x, z]) (by simp), ind2 h1]; exact T_ne2 hx hz h1
    · by_cases h1 : z = x
      · subst h1; rw [ind_congr (M := [z, y]) (by intro i; simp; omega), ind2 h]; exact T_ne2 hx hy h
      · by_cases h2 : z = y
        · subst h2; rw [ind_congr (M := [x, z]) (by intro i; simp), ind2 h]; exact T_ne2 hx hy h
        · rw [ind3 h h1 h2]; exact T_ne3 hx hy hz h
  | _ :: _ :: _ :: _ :: _, _, h, _ => simp at h
def part (E : Nat → Bool) (b n : Nat) : Nat → Bool := fun i => E i && decide (b ≤ i ∧ i < b + n)
def XE (E : Nat → Bool) (b : Nat) : Nat → Nat
  | 0 => 0
  | n + 1 => XE E b n ^^^ (if E (b + n) then T (b + n) else 0)
theorem synd_part (E : Nat → Bool) (b : Nat) : ∀ n, synd (part E b n) = XE E b n
  | 0 => by
    rw [show synd (part E b 0) = synd (fun _ => false) from synd_congr fun j _ => by simp [part]]
    exact synd_zero
  | n + 1 => by
    rw [XE, ← synd_part E b n]
    by_cases e : E (b + n) = true
    · rw [if_pos e, show synd (part E b n) ^^^ T (b + n) = synd (xorE (part E b n) (one (b + n))) from (synd_lin _ _).symm]
      refine synd_congr fun j _ => ?_
      by_cases h : j = b + n
      · subst h; simp [part, one, e]
      · have e1 : one (b + n) j = false := by simp [one, h]
        show part E b (n + 1) j = (part E b n j ^^ one (b + n) j)
        rw [e1, Bool.xor_false]
        unfold part
        congr 1
        simp only [decide_eq_decide]
        omega
    · have e : E (b + n) = false := by simpa using e
      rw [if_neg (by simp [e]), Nat.xor_zero]
      refine synd_congr fun j _ => ?_
      by_cases h : j = b + n
      · subst h; simp [part, e]
      · unfold part
        congr 1
        simp only [decide_eq_decide]
        omega
def mOf (E : Nat → Bool) (b : Nat) : Nat := (E b).toNat + 2 * (E (b + 1)).toNat + 4 * (E (b + 2)).toNat + 8 * (E (b + 3)).toNat + 16 * (E (b + 4)).toNat + 32 * (E (b + 5)).toNat + 64 * (E (b + 6)).toNat + 128 * (E (b + 7)).toNat
theorem tn (b : Bool) : (b.toNat = 1 ∧ b = true) ∨ (b.toNat = 0 ∧ b = false) := by cases b <;> simp
theorem mOf_bit (E : Nat → Bool) (b : Nat) : ∀ j < 8, (mOf E b / 2 ^ j % 2 = 1) ↔ E (b + j) = true := by
  have h0 := tn (E b); have h1 := tn (E (b + 1)); have h2 := tn (E (b + 2)); have h3 := tn (E (b + 3)); have h4 := tn (E (b + 4)); have h5 := tn (E (b + 5)); have h6 := tn (E (b + 6)); have h7 := tn (E (b + 7))
  intro j hj
  unfold mOf
  rcases (by omega : j = 0 ∨ j = 1 ∨ j = 2 ∨ j = 3 ∨ j = 4 ∨ j = 5 ∨ j = 6 ∨ j = 7) with rfl | rfl | rfl | rfl | rfl | rfl | rfl | rfl
  · rcases h0 with ⟨a, c⟩ | ⟨a, c⟩ <;> simp only [Nat.add_zero, a, c] <;> simp <;> omega
  · rcases h1 with ⟨a, c⟩ | ⟨a, c⟩ <;> simp only [a, c] <;> simp <;> omega
  · rcases h2 with ⟨a, c⟩ | ⟨a, c⟩ <;> simp only [a, c] <;> simp <;> omega
  · rcases h3 with ⟨a, c⟩ | ⟨a, c⟩ <;> simp only [a, c] <;> simp <;> omega
  · rcases h4 with ⟨a, c⟩ | ⟨a, c⟩ <;> simp only [a, c] <;> simp <;> omega
  · rcases h5 with ⟨a, c⟩ | ⟨a, c⟩ <;> simp only [a, c] <;> simp <;> omega
  · rcases h6 with ⟨a, c⟩ | ⟨a, c⟩ <;> simp only [a, c] <;> simp <;> omega
  · rcases h7 with ⟨a, c⟩ | ⟨a, c⟩ <;> simp only [a, c] <;> simp <;> omega
theorem XE_Y (E : Nat → Bool) {b : Nat} (hb : b < 49) : XE E b 8 = Y b (mOf E b) := by
  have h := mOf_bit E b
  have t : ∀ j < 8, (if E (b + j) = true then T (b + j) else 0) = (if mOf E b / 2 ^ j % 2 = 1 then tb.getD (b + j) 0 else 0) := fun j hj => by
    by_cases e : E (b + j) = true
    · rw [if_pos e, if_pos ((h j hj).mpr e), T_eq _ (by omega)]
    · rw [if_neg e, if_neg fun z => e ((h j hj).mp z)]
  have y : Y b (mOf E b) = (((((((0 ^^^ (if mOf E b / 2 ^ 0 % 2 = 1 then tb.getD (b + 0) 0 else 0)) ^^^ (if mOf E b / 2 ^ 1 % 2 = 1 then tb.getD (b + 1) 0 else 0)) ^^^ (if mOf E b / 2 ^ 2 % 2 = 1 then tb.getD (b + 2) 0 else 0)) ^^^ (if mOf E b / 2 ^ 3 % 2 = 1 then tb.getD (b + 3) 0 else 0)) ^^^ (if mOf E b / 2 ^ 4 % 2 = 1 then tb.getD (b + 4) 0 else 0)) ^^^ (if mOf E b / 2 ^ 5 % 2 = 1 then tb.getD (b + 5) 0 else 0)) ^^^ (if mOf E b / 2 ^ 6 % 2 = 1 then tb.getD (b + 6) 0 else 0)) ^^^ (if mOf E b / 2 ^ 7 % 2 = 1 then tb.getD (b + 7) 0 else 0) := rfl
  rw [y, ← t 0 (by decide), ← t 1 (by decide), ← t 2 (by decide), ← t 3 (by decide), ← t 4 (by decide), ← t 5 (by decide), ← t 6 (by decide), ← t 7 (by decide)]
  rfl
theorem synd_burst {L : List Nat} {b : Nat} (h0 : L ≠ []) (hb : b < 49) (hL : ∀ x ∈ L, b ≤ x ∧ x < b + 8) : synd (ind L) ≠ 0 := by
  rw [show synd (ind L) = synd (part (ind L) b 8) from synd_congr fun j _ => by
    unfold part ind
    by_cases h : j ∈ L
    · simp [h, hL j h]
    · simp [h], synd_part, XE_Y _ hb]
  have hm : mOf (ind L) b < 256 := by
    have h0 := toNat_lt (ind L b); have h1 := toNat_lt (ind L (b + 1)); have h2 := toNat_lt (ind L (b + 2)); have h3 := toNat_lt (ind L (b + 3)); have h4 := toNat_lt (ind L (b + 4)); have h5 := toNat_lt (ind L (b + 5)); have h6 := toNat_lt (ind L (b + 6)); have h7 := toNat_lt (ind L (b + 7))
    unfold mOf; omega
  refine Y_ne0 b hb _ hm fun e => ?_
  match L, h0, hL with
  | x :: r, _, hL =>
    have hx := hL x (by simp)
    have q := (mOf_bit (ind (x :: r)) b (x - b) (by omega)).mpr (by rw [show b + (x - b) = x by omega]; simp [ind])
    rw [e] at q
    simp at q
/-- a cell of which some bits are turned has a wrong check -/
theorem turned_bad {load : List Int} {E : Nat → Bool} (hl : load.length = 48) (hb : ∀ x ∈ load, isBit x) (h : synd E ≠ 0) :
    (flipL E 0 (load ++ fixL 8 (chk load))).drop 48 ≠ fixL 8 (chk ((flipL E 0 (load ++ fixL 8 (chk load))).take 48)) := by
  rw [flipL_append, hl, Nat.zero_add, List.drop_left' (by rw [flipL_len, hl]), List.take_left' (by rw [flipL_len, hl]), flip_fix]
  have e1 : chk (flipL E 0 load) = chk load ^^^ cfE E 0 0 48 := by
    have := cf_flip E load 0 0 0 (by decide) (by decide) hb
    rw [hl] at this
    exact this
  rw [e1]
  intro e
  have l1 : maskN E 48 8 < 256 := by
    have h0 := toNat_lt (E (48 + 0)); have h1 := toNat_lt (E (48 + 1)); have h2 := toNat_lt (E (48 + 2)); have h3 := toNat_lt (E (48 + 3)); have h4 := toNat_lt (E (48 + 4)); have h5 := toNat_lt (E (48 + 5)); have h6 := toNat_lt (E (48 + 6)); have h7 := toNat_lt (E (48 + 7))
    simp only [maskN]; omega
  have l2 : cfE E 0 0 48 < 256 := by
    have : ∀ n d i, d < 256 → cfE E d i n < 256 := by
      intro n
      induction n with
      | zero => intro d i h; exact h
      | succ n ih => intro d i _; exact ih _ _ (stp_lt _ _)
    exact this 48 0 0 (by decide)
  have e2 := congrArg numL e
  rw [num_fixL 8 _ (Nat.xor_lt_two_pow (n := 8) (chk_lt _) l1), num_fixL 8 _ (Nat.xor_lt_two_pow (n := 8) (chk_lt _) l2)] at e2
  have e3 : chk load ^^^ maskN E 48 8 = chk load ^^^ cfE E 0 0 48 := Int.ofNat.inj e2
  have e4 : maskN E 48 8 = cfE E 0 0 48 := by
    have := congrArg (fun z => chk load ^^^ z) e3
    simpa [← Nat.xor_assoc] using this
  exact h (by unfold synd; rw [e4, Nat.xor_self])
end SecCrc
open PySem L2
/-! one step that needs no thought -/
local macro_rules | `(tactic| walk_at "cond") => `(tactic| first
  | decide
  | exact .inl ⟨by decide, by decide⟩
  | exact .inr ⟨by decide, by decide⟩
  | exact ⟨by decide, by decide⟩
  | exact ⟨by decide, by decide, by decide⟩
  | assumption
  | (show (0 : Int) < _; omega)
  | (show (0 : Int) ≤ _; omega)
  | exact .inl ⟨by omega, by omega⟩
  | exact .inr ⟨by omega, by omega⟩
  | exact ⟨by omega, by omega⟩
  | exact ⟨by omega, by omega, by omega⟩)
local macro_rules | `(tactic| walk_at "sq") => `(tactic| first
  | assumption
  | exact SqL.of (by assumption)
  | exact SqT.of (by assumption)
  | exact SqL.of upd_same
  | exact SqT.of upd_same)
local macro_rules | `(tactic| walk_at "r1") => `(tactic| first
  | (with_reducible refine s_seq ?_)
  | (with_reducible refine s_next ?_)
  | (with_reducible refine s_asg ?_)
  | (with_reducible refine s_gname ?_)
  | (with_reducible refine s_ret ?_)
  | (with_reducible refine s_if ?_)
  | (with_reducible refine s_drop ?_)
  | (with_reducible refine s_op ?_)
  | (with_reducible refine s_c ?_)
  | (with_reducible refine s_tup ?_)
  | (with_reducible refine s_lst ?_)
  | (with_reducible refine s_nil ?_)
  | (with_reducible refine s_cons ?_)
  | (with_reducible refine s_call ?_)
  | (with_reducible refine s_cb ?_)
  | (with_reducible refine s_test ?_)
  | (with_reducible refine s_tB ?_)
  | (with_reducible refine s_b ?_)
  | (with_reducible refine s_not ?_)
  | (with_reducible refine s_and ?_)
  | (with_reducible refine s_or ?_)
  | (with_reducible refine s_un ?_)
  | (with_reducible refine s_U ?_)
  | (with_reducible refine s_ifE ?_)
  | (with_reducible refine s_andV0 ?_)
  | (with_reducible refine s_orV0 ?_)
  | (with_reducible refine s_notV ?_)
  | (with_reducible refine s_I0 ?_)
  | (with_reducible refine s_chain ?_)
  | (with_reducible refine s_par3 ?_)
  | (with_reducible refine s_par ?_)
  | (with_reducible refine s_v2 ?_)
  | (with_reducible refine s_v3 ?_)
  | (with_reducible refine s_eqI ?_)
  | (with_reducible refine s_neI ?_)
  | (with_reducible refine s_eqS ?_)
  | (with_reducible refine s_neS ?_)
  | (with_reducible refine s_max2 ?_)
  | (with_reducible refine s_min2 ?_)
  | (with_reducible refine s_int1 ?_)
  | (with_reducible refine s_int1b ?_)
  | ((with_reducible refine' s_var ?h ?q); (case h => rfl))
  | (with_reducible refine s_for ?_)
  | (with_reducible refine s_iR1 ?_)
  | (with_reducible refine s_iR2 ?_)
  | (with_reducible refine s_iR3 ?_)
  | (with_reducible refine s_sl ?_)
  | (with_reducible refine s_part ?_)
  | (with_reducible refine s_nopart ?_)
  | (with_reducible refine s_iL ?_)
  | (with_reducible refine s_iT ?_)
  | (with_reducible refine s_iS ?_)
  | (with_reducible refine s_lc ?_)
  | (with_reducible refine s_yes ?_)
  | ((with_reducible refine' s_wipe ?h ?q); (case h => rfl))
  | (with_reducible refine s_callK0 ?_)
  | (with_reducible refine s_bits ?_)
  | (with_reducible refine s_i ?_)
  | (with_reducible refine s_bm ?_)
  | (with_reducible refine s_bm0 ?_)
  | (with_reducible refine s_m1 ?_)
  | (with_reducible refine s_callK ?_)
  | (with_reducible refine s_gsub ?_)
  | ((with_reducible refine' s_gtup ?h ?e ?q); (case h => walk_at "sq"); (case e => rfl))
  | (with_reducible refine s_gcons ?_)
  | (with_reducible refine s_gnil ?_)
  | ((with_reducible refine s_I ?c ?q); (case c => walk_at "cond"))
  | ((with_reducible refine' s_ixL ?h ?a ?q); (case h => walk_at "sq"); (case a => rfl))
  | ((with_reducible refine' s_ixT ?h ?a ?q); (case h => walk_at "sq"); (case a => rfl))
  | ((with_reducible refine' s_setL ?h ?a ?q); (case h => first | assumption | exact upd_same); (case a => rfl))
  | ((with_reducible refine' s_len ?h ?q); (case h => walk_at "sq"))
  | ((with_reducible refine' s_lenT ?h ?q); (case h => walk_at "sq"))
  | (with_reducible refine iteT ?_)
  | (with_reducible refine iteF ?_)
  | (with_reducible refine itNF ?_)
  | (with_reducible refine itNT ?_))
local macro_rules | `(tactic| walk_at "r") => `(tactic| (repeat walk_at "r1"))
local macro_rules | `(tactic| walk_at "r1") => `(tactic| (with_reducible refine s_fmtB ?_))
def topS (i : Nat) : Stmt := PySem.Challenge.pw_narrowingbits_k59_damage_that_is_told.main.body.getD i (.Pass ⟨0, 0, 0, 0⟩)
structure Zs (mg : Str → Option Value) : Prop where
  z_bool : mg "bool" = none
  z_divmod : mg "divmod" = none
  z_int : mg "int" = none
  z_isinstance : mg "isinstance" = none
  z_len : mg "len" = none
  z_max : mg "max" = none
  z_min : mg "min" = none
  z_range : mg "range" = none
  e_CELL_SIZE : ∃ t, mg "CELL_SIZE" = some (.int (56) t)
  e_CHECK_SIZE : ∃ t, mg "CHECK_SIZE" = some (.int (8) t)
  e_HIGHEST : ∃ t, mg "HIGHEST" = some (.int (128) t)
  e_LOAD_SIZE : ∃ t, mg "LOAD_SIZE" = some (.int (48) t)
  e_MOST_GROUP : ∃ t, mg "MOST_GROUP" = some (.int (8) t)
  e_STATES : ∃ t, mg "STATES" = some (.int (256) t)
  e_TURN : ∃ t, mg "TURN" = some (.int (7) t)
theorem Zs.c_CELL_SIZE {mg : Str → Option Value} (Z : Zs mg) : mg "CELL_SIZE" = some (.int (56) (Classical.choose Z.e_CELL_SIZE)) := Classical.choose_spec Z.e_CELL_SIZE
theorem Zs.c_CHECK_SIZE {mg : Str → Option Value} (Z : Zs mg) : mg "CHECK_SIZE" = some (.int (8) (Classical.choose Z.e_CHECK_SIZE)) := Classical.choose_spec Z.e_CHECK_SIZE
theorem Zs.c_HIGHEST {mg : Str → Option Value} (Z : Zs mg) : mg "HIGHEST" = some (.int (128) (Classical.choose Z.e_HIGHEST)) := Classical.choose_spec Z.e_HIGHEST
theorem Zs.c_LOAD_SIZE {mg : Str → Option Value} (Z : Zs mg) : mg "LOAD_SIZE" = some (.int (48) (Classical.choose Z.e_LOAD_SIZE)) := Classical.choose_spec Z.e_LOAD_SIZE
theorem Zs.c_MOST_GROUP {mg : Str → Option Value} (Z : Zs mg) : mg "MOST_GROUP" = some (.int (8) (Classical.choose Z.e_MOST_GROUP)) := Classical.choose_spec Z.e_MOST_GROUP
theorem Zs.c_STATES {mg : Str → Option Value} (Z : Zs mg) : mg "STATES" = some (.int (256) (Classical.choose Z.e_STATES)) := Classical.choose_spec Z.e_STATES
theorem Zs.c_TURN {mg : Str → Option Value} (Z : Zs mg) : mg "TURN" = some (.int (7) (Classical.choose Z.e_TURN)) := Classical.choose_spec Z.e_TURN
/-! ### the promises -/
theorem pad_ok {i : Int} (h : 0 ≤ i ∧ i ≤ 10000) : PadOk i = true := by
  unfold PadOk fitsSsize Builtin.Str.tooLong
  have e : sizeLine = 16777216 := by decide
  simp [e]
  omega
def bitsV (w n : Nat) : List V := (fixL w n).map V.int
def sp_fixed (_ : PySem.W.Frag) : Sp := SpN 2 fun vs H Q _ => ∃ (n w : Int), vs = [.int n, .int w] ∧ 0 ≤ n ∧ 0 ≤ w ∧ w ≤ 10000 ∧ n.toNat < 2 ^ w.toNat ∧
  ∀ p H', Same H H' → H p = none → H' p = some (.lst (bitsV w.toNat n.toNat)) → Q (.ref p) H'
def Bits (bs : List Int) : Prop := ∀ b ∈ bs, isBit b
def sp_is_bit (_ : PySem.W.Frag) : Sp := SpN 1 fun vs H Q _ => ∃ (b : Int), vs = [.int b] ∧ isBit b ∧ Q (.bl true) H
def sp_check_bits (K : PySem.W.Frag) : Sp := SpN 1 fun vs H Q _ => ∃ (a : Addr) (bs : List Int), vs = [.ref a] ∧ SqL K H a (bs.map V.int) ∧ Bits bs ∧ Q .non H
def sp_check_of (K : PySem.W.Frag) : Sp := SpN 1 fun vs H Q _ => ∃ (a : Addr) (bs : List Int), vs = [.ref a] ∧ SqL K H a (bs.map V.int) ∧ Bits bs ∧
  ∀ p H', Same H H' → H p = none → H' p = some (.lst ((fixL 8 (chk bs)).map V.int)) → Q (.ref p) H'
def sp_check := sp_check_of
def sp_want_group (_ : PySem.W.Frag) : Sp := SpN 1 fun vs H Q _ => ∃ (g : Int), vs = [.int g] ∧ 1 ≤ g ∧ g ≤ 8 ∧ Q .non H
/-- a list of new lists: the i-th is f i -/
def Rows (F : Hp) (acc : List V) (n : Nat) (f : Nat → List V) : Prop := acc.length = n ∧ ∀ j < n, ∃ p, acc[j]? = some (.ref p) ∧ F p = some (.lst (f j))
theorem Rows.mono {F F' : Hp} {acc : List V} {n : Nat} {f : Nat → List V} (h : Rows F acc n f) (s : Same F F') : Rows F' acc n f := ⟨h.1, fun j hj => let ⟨p, e, q⟩ := h.2 j hj; ⟨p, e, s _ _ q⟩⟩
theorem Rows.snoc {F : Hp} {acc : List V} {n : Nat} {f : Nat → List V} {p : Addr} (h : Rows F acc n f) (q : F p = some (.lst (f n))) : Rows F (acc ++ [.ref p]) (n + 1) f := by
  have hl := h.1
  refine ⟨by simp [h.1], fun j hj => ?_⟩
  by_cases e : j = n
  · subst e; exact ⟨p, by rw [List.getElem?_append_right (by omega), h.1]; simp, q⟩
  · obtain ⟨r, e1, e2⟩ := h.2 j (by omega)
    exact ⟨r, by rw [List.getElem?_append_left (by omega)]; exact e1, e2⟩
def sp_cut_up (K : PySem.W.Frag) : Sp := SpN 2 fun vs H Q _ => ∃ (a : Addr) (xs : List V) (k n : Nat), vs = [.ref a, .int k] ∧ SqL K H a xs ∧ xs.length = n * k ∧ 0 < k ∧ k < 100000 ∧ n < 90000 ∧
  ∀ p F' H' acc, Stp S0 H H F' H' → H p = none → F' p = some (.lst acc) → Rows F' acc n (fun i => (xs.drop (i * k)).take k) → Q (.ref p) H'
def goodL (c : List Int) : Bool := decide (c.drop 48 = fixL 8 (chk (c.take 48)))
def sp_is_good (K : PySem.W.Frag) : Sp := SpN 1 fun vs H Q _ => ∃ (a : Addr) (c : List Int), vs = [.ref a] ∧ SqL K H a (c.map V.int) ∧ Bits c ∧ ∀ H', Same H H' → Q (.bl (goodL c)) H'
def sp_cells_of (K : PySem.W.Frag) : Sp := SpN 2 fun vs H Q _ => ∃ (a : Addr) (bs : List Int) (g : Int) (n : Nat), vs = [.ref a, .int g] ∧ SqL K H a (bs.map V.int) ∧ Bits bs ∧ bs.length = n * 56 ∧ 0 < n ∧ n < 90000 ∧ 1 ≤ g ∧ g ≤ 8 ∧ (n : Int) % (g + 1) ≠ 1 ∧
  ∀ p F' H' acc, Stp S0 H H F' H' → H p = none → F' p = some (.lst acc) → Rows F' acc n (fun i => ((bs.map V.int).drop (i * 56)).take 56) → Q (.ref p) H'
def sp_good (K : PySem.W.Frag) : Sp := SpN 2 fun vs H Q _ => ∃ (a : Addr) (bs : List Int) (g : Int) (n : Nat), vs = [.ref a, .int g] ∧ SqL K H a (bs.map V.int) ∧ Bits bs ∧ bs.length = n * 56 ∧ 0 < n ∧ n < 90000 ∧ 1 ≤ g ∧ g ≤ 8 ∧ (n : Int) % (g + 1) ≠ 1 ∧
  ∀ p H', Same H H' → H p = none → H' p = some (.lst (((List.range n).map fun i => goodL ((bs.drop (i * 56)).take 56)).map V.bl)) → Q (.ref p) H'
def sp_law_well (K : PySem.W.Frag) : Sp := SpN 2 fun vs H Q _ => ∃ (s : Addr) (ns : List Int) (k : Int), vs = [.ref s, .int k] ∧ SqL K H s (ns.map V.int) ∧ 0 ≤ k ∧ k < 100 ∧
  ∀ p H', Src H H' p → Q (.ref p) H'
def sp_law_drop (_ : PySem.W.Frag) : Sp := SpN 2 fun vs H Q _ => ∃ (F : Hp) (p : Addr) (t : Int), vs = [.ref p, .int t] ∧ Src F H p ∧ 0 < t ∧ t < 1073741824 ∧
  ∀ r H', Src F H' p → Stp (S1 p) F H F H' → 0 ≤ r → r < t → Q (.int r) H'
def sp_law_one (K : PySem.W.Frag) : Sp := SpN 2 fun vs H Q _ => ∃ (F : Hp) (p q : Addr) (ns : List Int), vs = [.ref p, .ref q] ∧ Src F H p ∧ SqL K F q (ns.map V.int) ∧ 0 < ns.length ∧ ns.length < 1000 ∧
  ∀ r H', Src F H' p → Stp (S1 p) F H F H' → r ∈ ns → Q (.int r) H'
/-- places that may be turned -/
def SpotsOk (L : List Nat) : Prop := L ≠ [] ∧ (∀ x ∈ L, x < 56) ∧ (L.length ≤ 3 ∨ ∃ b < 49, ∀ x ∈ L, b ≤ x ∧ x < b + 8)
def spotsV (L : List Nat) : List Int := ((List.range 56).filter fun i => decide (i ∈ L)).map fun (i : Nat) => (i : Int)
def sp_law_spots (_ : PySem.W.Frag) : Sp := SpN 1 fun vs H Q _ => ∃ (F : Hp) (p : Addr), vs = [.ref p] ∧ Src F H p ∧
  ∀ q L F' H', Src F' H' p → Stp (S1 p) F H F' H' → F' q = some (.lst ((spotsV L).map V.int)) → SpotsOk L → Q (.ref q) H'
def sp_law_turned (K : PySem.W.Frag) : Sp := SpN 2 fun vs H Q _ => ∃ (a b : Addr) (c : List Int) (L : List Nat), vs = [.ref a, .ref b] ∧ SqL K H a (c.map V.int) ∧ c.length = 56 ∧ SqL K H b ((spotsV L).map V.int) ∧
  ∀ p H', Same H H' → H p = none → H' p = some (.lst ((flipL (ind L) 0 c).map V.int)) → Q (.ref p) H'
def sp_law (K : PySem.W.Frag) : Sp := SpN 1 fun vs H Q _ => ∃ (a : Addr) (ns : List Int), vs = [.ref a] ∧ SqL K H a (ns.map V.int) ∧ ns.length ≤ 63 ∧ ∀ H', Q (.bl true) H'
theorem law_start {K : PySem.W.Frag} {H : Hp} {a : Addr} {ns : List Int} {E : XK} (hl : ns.length ≤ 63) (hS : SqL K H a (ns.map V.int)) : sp_law K [.ref a] H (fun v _ => v = .bl true) E := ⟨rfl, a, ns, rfl, hS, hl, fun _ => rfl⟩
theorem Bits.app {a b : List Int} (ha : Bits a) (hb : Bits b) : Bits (a ++ b) := fun x hx => (List.mem_append.mp hx).elim (ha x) (hb x)
theorem good2 {a b : List Int} (ha : a.length = 56) (hb : b.length = 56) : (List.range 2).map (fun i => goodL (((a ++ b).drop (i * 56)).take 56)) = [goodL a, goodL b] := by
  show [goodL (((a ++ b).drop 0).take 56), goodL (((a ++ b).drop 56).take 56)] = _
  rw [List.drop_zero, List.take_left' ha, List.drop_left' ha, List.take_of_length_le (by omega)]
theorem SpotsOk.synd {L : List Nat} (h : SpotsOk L) : synd (ind L) ≠ 0 := by
  obtain ⟨h0, h1, h2 | ⟨b, hb, h3⟩⟩ := h
  · exact synd_small h0 h2 h1
  · exact synd_burst h0 hb h3
theorem flip_ne {L : List Nat} {c : List Int} (h : SpotsOk L) (hc : c.length = 56) : ¬ flipL (ind L) 0 c = c := fun e => by
  obtain ⟨h0, h1, _⟩ := h
  match L, h0, h1 with
  | x :: r, _, h1 =>
    have hx := h1 x (by simp)
    have hl : x < c.length := by omega
    have q := flipL_at (ind (x :: r)) c 0 x
    rw [e, List.getElem?_eq_getElem hl, Nat.zero_add, Option.map_some, if_pos (by simp [ind])] at q
    have := Option.some.inj q
    omega
theorem flip_bits (E : Nat → Bool) : ∀ (c : List Int) (i : Nat), Bits c → Bits (flipL E i c)
  | [], _, _ => fun x h => absurd h (by simp [flipL])
  | y :: c, i, hb => fun x h => by
    rw [flipL, List.mem_cons] at h
    rcases h with rfl | h
    · have := hb y (by simp)
      unfold isBit at *
      split <;> omega
    · exact flip_bits E c (i + 1) (fun z hz => hb z (by simp [hz])) x h
section
variable {P : Program} {w : World} {K : PySem.W.Frag} {mg : Str → Option Value} {base : Heap}
abbrev s_fixed : Stmt := topS 8
theorem sc_fixed : FnScope ["n", "w", "digit"] ["n", "w"] (defScope s_fixed) := ⟨rfl, rfl, rfl, by decide +kernel, rfl, by decide +kernel, by decide +kernel⟩
def Ok_fixed (P : Program) (w : World) (K : PySem.W.Frag) (mg : Str → Option Value) (base : Heap) : Prop := ∃ fA fd, Fn P w K mg base CX0 1 "fixed" s_fixed fA fd ["n", "w"] (sp_fixed K)
theorem okx_fixed (Z : Zs mg) {fA : Addr} {fd : FuncData} (F : Fun K "fixed" "fixed" s_fixed fA fd) (m : mg "fixed" = some (.ref fA))  : Fn P w K mg base CX0 1 "fixed" s_fixed fA fd ["n", "w"] (sp_fixed K) := by
  refine ⟨F.ok sc_fixed (fun vs H Q E h => h.1) (fun cdv A outer s H vs Q E hr h => ?_), m, F.kp, F.binds fun _ _ _ _ _ _ us hl => match us, hl with | [_, _], _ => rfl, F⟩
  have hu64 := hr.units
  obtain ⟨hlen, h⟩ := h
  refine ⟨_, (pss_cons (ps_if (PW.pt (pw_or (pt_cmpR op_lt (pv 0) pe_int (nomark _)) (pw_or (pt_cmpR op_lt (pv 1) pe_int (nomark _)) (pw_or1 (pt_cmpR op_gt (pe_bits (pv 0)) (pv 1) (nomark _))))))
      (pss_one ps_never)
      pss_nil)
    (pss_cons (ps_if (pt_cmpR op_eq (pv 1) pe_int (nomark _))
      (pss_one (ps_ret (pe_lst pa_nil)))
      pss_nil)
    (pss_one (ps_ret (pe_lc (own := [("digit", 2)]) (g := gName 2) (tt := tYes) (by rfl) sc_fixed.nd (pi_str (pe_bm PySem.F.plainAttrs_str PySem.F.slot_str_zfill PySem.F.type_str_zfill mt_zfill (pe_joined1 (pe_fmtB (pv 0))) (pa_cons (pv 1) pa_nil))) (blkOk_by (own := [("digit", 2)]) (N := ["n", "w", "digit"]) (sc := defScope s_fixed) (by decide +kernel)) (fun _ _ _ _ _ => (pg_name (i := 2) sc_fixed.nd rfl (Or.inl rfl))) (fun _ _ _ _ _ => pts_nil) (fun _ _ _ _ _ => (pe_callTy call_int_str (by rfl) Z.z_int (by decide +kernel) (pa_cons (pv 2) pa_nil)))))))), ?_⟩
  obtain ⟨n, w, rfl, hn, hw, hw2, hlt, k⟩ := h
  walk_at "r"
  refine ifd (fun h => absurd h (by omega)) (fun _ => ?_)
  walk_at "r"
  refine ifd (fun h => absurd h (by omega)) (fun _ => ?_)
  walk_at "r"
  have hb := (intBits_le (w := w.toNat) hn).mpr hlt
  refine ifd (fun h => absurd h (by omega)) (fun _ => ?_)
  walk_at "r"
  refine ifd (fun h => ?_) (fun h => ?_)
  · walk_at "r"
    subst h
    exact ⟨sz (by simp), fun p hp => k p _ (Stp.new (S := S0) (Same.refl H) hp).same hp upd_same⟩
  · walk_at "r"
    obtain ⟨w', rfl⟩ : ∃ w' : Nat, w = ((w' + 1 : Nat) : Int) := ⟨w.toNat - 1, by omega⟩
    rw [Int.toNat_natCast] at hlt k
    have en : n.natAbs = n.toNat := by omega
    refine ⟨hn, Nat.le_trans (bits_le (n := n.natAbs) (by rw [en]; exact hlt)) (by omega), ?_⟩
    refine ⟨rfl, ?_⟩
    walk_at "r"
    refine ⟨_, _, rfl, rfl, pad_ok (by omega), ?_⟩
    refine ⟨_, rfl, ?_⟩
    have hz := zfill_bin hlt
    rw [show n.toNat = n.natAbs by omega] at hz
    have hs : (Txt.zfill (binText n.natAbs) ((w' + 1 : Nat) : Int)).cps.size = w' + 1 := by
      rw [← Array.length_toList, hz, List.length_map, fixL_len]
    refine lcW walk_str S0 (Same.refl H) (fun _ z => z.elim) (fun _ _ _ => trivial) (fun i acc F1 H1 => acc = (bitsV (w' + 1) n.toNat).take i) (fun _ _ _ _ _ _ _ _ _ r => r) rfl ?_ ?_
    · rintro i x acc d F1 H1 H2 hi ⟨rfl, c, hc, rfl⟩ hd nS st f0 e hl r
      walk_at "r"
      have hc2 : ((fixL (w' + 1) n.natAbs).map code)[i]? = some c := by rw [← hz]; simpa using hc
      rw [List.getElem?_map] at hc2
      cases hb2 : (fixL (w' + 1) n.natAbs)[i]? with
      | none => rw [hb2] at hc2; cases hc2
      | some b =>
        rw [hb2] at hc2
        have ec : code b = c := Option.some.inj hc2
        subst ec
        refine ⟨_, _, rfl, text_bit (fixL_bit _ _ b (List.mem_of_getElem? hb2)), (by show 1 ≤ 640; decide), ?_⟩
        refine lc_end hd nS st f0 e hl (by rw [hs] at hi; omega) (.rfl' st.fh) ?_
        have hi2 : i < (bitsV (w' + 1) n.toNat).length := by simp [bitsV, fixL_len]; rw [hs] at hi; exact hi
        rw [r, List.take_succ_eq_append_getElem hi2]
        congr 2
        have q2 : (bitsV (w' + 1) n.toNat)[i]? = some (V.int b) := by rw [bitsV, List.getElem?_map, ← en, hb2]; rfl
        rw [List.getElem?_eq_getElem hi2] at q2
        exact (Option.some.inj q2).symm
    · intro d acc F0 F1 H1 st hd f0 ef st1 hl r
      refine k d H1 st.same hd ?_
      rw [ef] at st1
      rw [st1.fh _ _ upd_same, r, hs, List.take_of_length_le (by simp [bitsV, fixL_len])]
abbrev s_is_bit : Stmt := topS 6
theorem sc_is_bit : FnScope ["thing"] ["thing"] (defScope s_is_bit) := ⟨rfl, rfl, rfl, by decide +kernel, rfl, by decide +kernel, by decide +kernel⟩
def Ok_is_bit (P : Program) (w : World) (K : PySem.W.Frag) (mg : Str → Option Value) (base : Heap) : Prop := ∃ fA fd, Fn P w K mg base CX0 1 "is_bit" s_is_bit fA fd ["thing"] (sp_is_bit K)
theorem okx_is_bit (Z : Zs mg) {fA : Addr} {fd : FuncData} (F : Fun K "is_bit" "is_bit" s_is_bit fA fd) (m : mg "is_bit" = some (.ref fA))  : Fn P w K mg base CX0 1 "is_bit" s_is_bit fA fd ["thing"] (sp_is_bit K) := by
  refine ⟨F.ok sc_is_bit (fun vs H Q E h => h.1) (fun cdv A outer s H vs Q E hr h => ?_), m, F.kp, F.binds fun _ _ _ _ _ _ us hl => match us, hl with | [_], _ => rfl, F⟩
  have hu64 := hr.units
  obtain ⟨hlen, h⟩ := h
  refine ⟨_, (pss_one (ps_ret (pe_and (pe_callB (c_isi K rfl) (by rfl) Z.z_isinstance (by decide +kernel) (pa_cons (pv 0) (pa_cons (pe_bltn (v := .ty "int") (by rfl) Z.z_int (by decide +kernel) rfl) pa_nil))) (pe_and (pe_not (pe_callB (c_isi K rfl) (by rfl) Z.z_isinstance (by decide +kernel) (pa_cons (pv 0) (pa_cons (pe_bltn (v := .ty "bool") (by rfl) Z.z_bool (by decide +kernel) rfl) pa_nil)))) (pe_one (pe_chain op_le op_le pe_int (pv 0) pe_int)))))), ?_⟩
  obtain ⟨b, rfl, hb, q⟩ := h
  have hb2 : 0 ≤ b ∧ b ≤ 1 := by rcases hb with rfl | rfl <;> decide
  walk_at "r"
  refine s_isi (b := true) (.base (.int b)) (by decide +kernel) ?_
  walk_at "r"
  refine s_isi (b := false) (.base (.int b)) (by decide +kernel) ?_
  walk_at "r"
  refine ifd (fun h => ?_) (fun h => absurd hb2.1 h)
  walk_at "r"
  rw [decide_eq_true hb2.2]
  exact q
abbrev s_check_bits : Stmt := topS 7
theorem sc_check_bits : FnScope ["bits", "bit"] ["bits"] (defScope s_check_bits) := ⟨rfl, rfl, rfl, by decide +kernel, rfl, by decide +kernel, by decide +kernel⟩
def Ok_check_bits (P : Program) (w : World) (K : PySem.W.Frag) (mg : Str → Option Value) (base : Heap) : Prop := ∃ fA fd, Fn P w K mg base CX0 2 "check_bits" s_check_bits fA fd ["bits"] (sp_check_bits K)
theorem okx_check_bits (Z : Zs mg) {fA : Addr} {fd : FuncData} (F : Fun K "check_bits" "check_bits" s_check_bits fA fd) (m : mg "check_bits" = some (.ref fA)) (C_is_bit : Ok_is_bit P w K mg base) : Fn P w K mg base CX0 2 "check_bits" s_check_bits fA fd ["bits"] (sp_check_bits K) := by
  obtain ⟨_, _, C_is_bit⟩ := C_is_bit
  refine ⟨F.ok sc_check_bits (fun vs H Q E h => h.1) (fun cdv A outer s H vs Q E hr h => ?_), m, F.kp, F.binds fun _ _ _ _ _ _ us hl => match us, hl with | [_], _ => rfl, F⟩
  have hu64 := hr.units
  obtain ⟨hlen, h⟩ := h
  refine ⟨_, (pss_one (ps_for PassesOwn.never rfl (pi_list (pv 0)) (pg_name (i := 1) sc_check_bits.nd rfl (Or.inl rfl))
      (pss_one (ps_if (pt_not (pt_val (pe_call C_is_bit.G (hr.mono (by decide)) rfl C_is_bit.m C_is_bit.kp C_is_bit.b .nil pass0 (pa_cons (pv 1) pa_nil))))
      (pss_one ps_never)
      pss_nil)))), ?_⟩
  obtain ⟨a, bs, rfl, hS, hb, q⟩ := h
  walk_at "r"
  refine ⟨_, rfl, ⟨_, hS⟩, ?_⟩
  refine forL (xs := bs.map V.int) (fun i σ H' => ∃ v, σ = [some (.ref a), v] ∧ H = H') ⟨_, rfl, rfl⟩ (fun i σ H' _ ⟨_, _, e⟩ => e ▸ hS) ?_ ?_
  · rintro i x σ H' hx ⟨v, rfl, rfl⟩
    rw [List.getElem?_map] at hx
    cases z : bs[i]? with
    | none => rw [z] at hx; cases hx
    | some b =>
      rw [z] at hx
      cases hx
      walk_at "r"
      refine ⟨rfl, b, rfl, hb b (List.mem_of_getElem? z), ?_⟩
      walk_at "r"
      exact ⟨_, rfl, rfl⟩
  · rintro σ H' ⟨v, rfl, rfl⟩
    exact q
abbrev s_check_of : Stmt := topS 14
theorem sc_check_of : FnScope ["bits", "held", "bit", "top"] ["bits"] (defScope s_check_of) := ⟨rfl, rfl, rfl, by decide +kernel, rfl, by decide +kernel, by decide +kernel⟩
def Ok_check_of (P : Program) (w : World) (K : PySem.W.Frag) (mg : Str → Option Value) (base : Heap) : Prop := ∃ fA fd, Fn P w K mg base CX0 2 "check_of" s_check_of fA fd ["bits"] (sp_check_of K)
theorem okx_check_of (Z : Zs mg) {fA : Addr} {fd : FuncData} (F : Fun K "check_of" "check_of" s_check_of fA fd) (m : mg "check_of" = some (.ref fA)) (C_fixed : Ok_fixed P w K mg base) : Fn P w K mg base CX0 2 "check_of" s_check_of fA fd ["bits"] (sp_check_of K) := by
  obtain ⟨_, _, C_fixed⟩ := C_fixed
  refine ⟨F.ok sc_check_of (fun vs H Q E h => h.1) (fun cdv A outer s H vs Q E hr h => ?_), m, F.kp, F.binds fun _ _ _ _ _ _ us hl => match us, hl with | [_], _ => rfl, F⟩
  have hu64 := hr.units
  obtain ⟨hlen, h⟩ := h
  refine ⟨_, (pss_cons (ps_set (i := 1) sc_check_of.nd rfl (Or.inl rfl) pe_int)
    (pss_cons (ps_for PassesOwn.never rfl (pi_list (pv 0)) (pg_name (i := 2) sc_check_of.nd rfl (Or.inl rfl))
      (pss_cons (ps_set (i := 3) sc_check_of.nd rfl (Or.inl rfl) (pe_op op_xor (pe_op op_fdiv (pv 1) (pe_glob (v := .int (128)) rfl Z.c_HIGHEST ⟨_, rfl⟩)) (pv 2)))
    (pss_cons (ps_set (i := 1) sc_check_of.nd rfl (Or.inl rfl) (pe_op op_mod (pe_op op_mul pe_int (pv 1)) (pe_glob (v := .int (256)) rfl Z.c_STATES ⟨_, rfl⟩)))
    (pss_one (ps_if (pt_cmpR op_eq (pv 3) pe_int (nomark _))
      (pss_one (ps_set (i := 1) sc_check_of.nd rfl (Or.inl rfl) (pe_op op_xor (pv 1) (pe_glob (v := .int (7)) rfl Z.c_TURN ⟨_, rfl⟩))))
      pss_nil)))))
    (pss_one (ps_ret (pe_call C_fixed.G (hr.mono (by decide)) rfl C_fixed.m C_fixed.kp C_fixed.b .nil pass0 (pa_cons (pv 1) (pa_cons (pe_glob (v := .int (8)) rfl Z.c_CHECK_SIZE ⟨_, rfl⟩) pa_nil))))))), ?_⟩
  obtain ⟨a, bs, rfl, hS, hb, q⟩ := h
  walk_at "r"
  refine ⟨_, rfl, ⟨_, hS⟩, ?_⟩
  refine forL (xs := bs.map V.int) (fun i σ H' => ∃ v w, σ = [some (.ref a), some (.int (chk (bs.take i) : Nat)), v, w] ∧ H = H') ⟨_, _, rfl, rfl⟩ (fun i σ H' _ ⟨_, _, _, e⟩ => e ▸ hS) ?_ ?_
  · rintro i x σ H' hx ⟨v, w, rfl, rfl⟩
    rw [List.getElem?_map] at hx
    cases z : bs[i]? with
    | none => rw [z] at hx; cases hx
    | some b =>
      rw [z] at hx
      cases hx
      have hbb := hb b (List.mem_of_getElem? z)
      have hi : i < bs.length := (List.getElem?_eq_some_iff.mp z).1
      have et : bs.take (i + 1) = bs.take i ++ [b] := by
        rw [List.take_succ_eq_append_getElem hi]
        rw [List.getElem?_eq_getElem hi] at z
        rw [Option.some.inj z]
      have lt := chk_lt (bs.take i)
      have b0 : 0 ≤ b := by rcases hbb with rfl | rfl <;> decide
      have es : chk (bs.take (i + 1)) = stp (chk (bs.take i)) b.toNat := by rw [et]; exact cf_snoc _ _ _
      have e1 : Builtin.bitXor ((chk (bs.take i) : Int) / 128) b = (((chk (bs.take i) / 128) ^^^ b.toNat : Nat) : Int) := by
        rw [Bits.bitXor_pp (by omega) b0]; congr 2
      have e2 : (2 * (chk (bs.take i) : Int)) % 256 = ((2 * chk (bs.take i) % 256 : Nat) : Int) := by simp
      walk_at "r"
      rw [e1]
      refine ifd (fun h => ?_) (fun h => ?_)
      · have h' : (chk (bs.take i) / 128) ^^^ b.toNat = 1 := by omega
        have hv : Builtin.bitXor (2 * (chk (bs.take i) : Int) % 256) 7 = ((chk (bs.take (i + 1)) : Nat) : Int) := by
          rw [e2, Bits.bitXor_pp (by omega) (by decide), es, stp, if_pos h']; rfl
        walk_at "r"
        rw [hv]
        exact ⟨_, _, rfl, rfl⟩
      · have h' : ¬ (chk (bs.take i) / 128) ^^^ b.toNat = 1 := by omega
        have hv : 2 * (chk (bs.take i) : Int) % 256 = ((chk (bs.take (i + 1)) : Nat) : Int) := by
          rw [e2, es, stp, if_neg h', Nat.xor_zero]
        walk_at "r"
        rw [hv]
        exact ⟨_, _, rfl, rfl⟩
  · rintro σ H' ⟨v, w, rfl, rfl⟩
    rw [List.length_map, List.take_length]
    walk_at "r"
    refine ⟨rfl, _, _, rfl, by omega, by decide, by decide, by rw [Int.toNat_natCast]; exact chk_lt bs, fun p H1 s1 hp h1 => q p H1 s1 hp ?_⟩
    rw [h1, Int.toNat_natCast]; rfl
abbrev s_check : Stmt := topS 15
theorem sc_check : FnScope ["bits"] ["bits"] (defScope s_check) := ⟨rfl, rfl, rfl, by decide +kernel, rfl, by decide +kernel, by decide +kernel⟩
def Ok_check (P : Program) (w : World) (K : PySem.W.Frag) (mg : Str → Option Value) (base : Heap) : Prop := ∃ fA fd, Fn P w K mg base CX0 3 "check" s_check fA fd ["bits"] (sp_check K)
theorem okx_check (Z : Zs mg) {fA : Addr} {fd : FuncData} (F : Fun K "check" "check" s_check fA fd) (m : mg "check" = some (.ref fA)) (C_check_of : Ok_check_of P w K mg base) (C_check_bits : Ok_check_bits P w K mg base) : Fn P w K mg base CX0 3 "check" s_check fA fd ["bits"] (sp_check K) := by
  obtain ⟨_, _, C_check_of⟩ := C_check_of
  obtain ⟨_, _, C_check_bits⟩ := C_check_bits
  refine ⟨F.ok sc_check (fun vs H Q E h => h.1) (fun cdv A outer s H vs Q E hr h => ?_), m, F.kp, F.binds fun _ _ _ _ _ _ us hl => match us, hl with | [_], _ => rfl, F⟩
  have hu64 := hr.units
  obtain ⟨hlen, h⟩ := h
  refine ⟨_, (pss_cons (ps_expr (pe_call C_check_bits.G (hr.mono (by decide)) rfl C_check_bits.m C_check_bits.kp C_check_bits.b .nil pass0 (pa_cons (pv 0) pa_nil)))
    (pss_one (ps_ret (pe_call C_check_of.G (hr.mono (by decide)) rfl C_check_of.m C_check_of.kp C_check_of.b .nil pass0 (pa_cons (pv 0) pa_nil))))), ?_⟩
  obtain ⟨a, bs, rfl, hS, hb, q⟩ := h
  walk_at "r"
  refine ⟨rfl, a, bs, rfl, hS, hb, ?_⟩
  walk_at "r"
  exact ⟨rfl, a, bs, rfl, hS, hb, q⟩
abbrev s_want_group : Stmt := topS 20
theorem sc_want_group : FnScope ["group"] ["group"] (defScope s_want_group) := ⟨rfl, rfl, rfl, by decide +kernel, rfl, by decide +kernel, by decide +kernel⟩
def Ok_want_group (P : Program) (w : World) (K : PySem.W.Frag) (mg : Str → Option Value) (base : Heap) : Prop := ∃ fA fd, Fn P w K mg base CX0 1 "want_group" s_want_group fA fd ["group"] (sp_want_group K)
theorem okx_want_group (Z : Zs mg) {fA : Addr} {fd : FuncData} (F : Fun K "want_group" "want_group" s_want_group fA fd) (m : mg "want_group" = some (.ref fA))  : Fn P w K mg base CX0 1 "want_group" s_want_group fA fd ["group"] (sp_want_group K) := by
  refine ⟨F.ok sc_want_group (fun vs H Q E h => h.1) (fun cdv A outer s H vs Q E hr h => ?_), m, F.kp, F.binds fun _ _ _ _ _ _ us hl => match us, hl with | [_], _ => rfl, F⟩
  have hu64 := hr.units
  obtain ⟨hlen, h⟩ := h
  refine ⟨_, (pss_one (ps_if (pt_not (pt_chain op_le op_le pe_int (pv 0) (pe_glob (v := .int (8)) rfl Z.c_MOST_GROUP ⟨_, rfl⟩)))
      (pss_one ps_never)
      pss_nil)), ?_⟩
  obtain ⟨g, rfl, h1, h2, q⟩ := h
  walk_at "r"
  refine ifd (fun _ => ?_) (fun h => absurd h1 h)
  walk_at "r"
  refine ifn (fun _ => ?_) (fun h => absurd h2 h)
  exact q
abbrev s_cut_up : Stmt := topS 21
theorem sc_cut_up : FnScope ["things", "size", "at"] ["things", "size"] (defScope s_cut_up) := ⟨rfl, rfl, rfl, by decide +kernel, rfl, by decide +kernel, by decide +kernel⟩
def Ok_cut_up (P : Program) (w : World) (K : PySem.W.Frag) (mg : Str → Option Value) (base : Heap) : Prop := ∃ fA fd, Fn P w K mg base CX0 1 "cut_up" s_cut_up fA fd ["things", "size"] (sp_cut_up K)
theorem okx_cut_up (Z : Zs mg) {fA : Addr} {fd : FuncData} (F : Fun K "cut_up" "cut_up" s_cut_up fA fd) (m : mg "cut_up" = some (.ref fA))  : Fn P w K mg base CX0 1 "cut_up" s_cut_up fA fd ["things", "size"] (sp_cut_up K) := by
  refine ⟨F.ok sc_cut_up (fun vs H Q E h => h.1) (fun cdv A outer s H vs Q E hr h => ?_), m, F.kp, F.binds fun _ _ _ _ _ _ us hl => match us, hl with | [_, _], _ => rfl, F⟩
  have hu64 := hr.units
  obtain ⟨hlen, h⟩ := h
  refine ⟨_, (pss_one (ps_ret (pe_lc (own := [("at", 2)]) (g := gName 2) (tt := tYes) (by rfl) sc_cut_up.nd (pi_range3 rfl Z.z_range (pa_cons pe_int (pa_cons (pe_callB (c_len K rfl) (by rfl) Z.z_len (by decide +kernel) (pa_cons (pv 0) pa_nil)) (pa_cons (pv 1) pa_nil)))) (blkOk_by (own := [("at", 2)]) (N := ["things", "size", "at"]) (sc := defScope s_cut_up) (by decide +kernel)) (fun _ _ _ _ _ => (pg_name (i := 2) sc_cut_up.nd rfl (Or.inl rfl))) (fun _ _ _ _ _ => pts_nil) (fun _ _ _ _ _ => (pe_slice (l_list K rfl) (pv 0) (po_some (pv 2)) (po_some (pe_op op_add (pv 2) (pv 1)))))))), ?_⟩
  obtain ⟨a, xs, k, n, rfl, hS, hlen, hk0, hk, hn, q⟩ := h
  have hL : xs.length ≤ 90000 * 100000 := by rw [hlen]; exact Nat.mul_le_mul (by omega) (by omega)
  walk_at "r"
  have en : (((xs.length : Nat) : Int) + (k : Int) - 1) / (k : Int) = (n : Int) := by
    rw [hlen, Int.natCast_mul, show (n : Int) * k + k - 1 = (k - 1) + n * k by omega, Int.add_mul_ediv_right _ _ (by omega), Int.ediv_eq_zero_of_lt (by omega) (by omega)]
    omega
  refine ⟨_, _, _, n, rfl, ?_, ?_⟩
  · have := rgc_up (L := ((xs.length : Nat) : Int)) (k := (k : Int)) (by omega) (by omega) (by omega) (by omega)
    rw [en, Int.toNat_natCast] at this
    exact this
  refine lcW walk_rangeC S0 (Same.refl H) (fun _ z => z.elim) (fun _ _ _ => trivial) (fun i acc F1 H1 => Rows F1 acc i (fun i => (xs.drop (i * k)).take k)) (fun _ _ _ _ _ _ _ _ _ r => r) ⟨rfl, fun j hj => absurd hj (by omega)⟩ ?_ ?_
  · rintro i x acc d F1 H1 H2 hi ⟨rfl, rfl⟩ hd nS st f0 e hl rr
    have ei : (0 : Int) + (i : Int) * (k : Int) = ((i * k : Nat) : Int) := by simp
    have ej : ((i * k : Nat) : Int) + (k : Int) = ((i * k + k : Nat) : Int) := by simp
    dsimp only; rw [ei]
    walk_at "r"
    rw [ej]
    refine s_slL (st.same.seq hS) fun p hp => ?_
    have s4 := Stp.new (S := S0) (o := .lst (cutV xs (some ((i * k : Nat) : Int)) (some ((i * k + k : Nat) : Int)))) st.fh hp
    refine lc_end hd nS st f0 e hl (by omega) s4 ?_
    refine (rr.mono s4.ff).snoc ?_
    rw [upd_same, cutV_nat, show i * k + k - i * k = k by omega]
  · intro d acc F0 F1 H1 st hd f0 ef st1 hl rr
    refine q d F1 H1 acc st1 hd (by rw [ef]; exact upd_same) (rr.mono ?_)
    rw [ef]
    exact (Stp.new (S := S0) (Same.refl F0) f0).ff
abbrev s_is_good : Stmt := topS 22
theorem sc_is_good : FnScope ["cell"] ["cell"] (defScope s_is_good) := ⟨rfl, rfl, rfl, by decide +kernel, rfl, by decide +kernel, by decide +kernel⟩
def Ok_is_good (P : Program) (w : World) (K : PySem.W.Frag) (mg : Str → Option Value) (base : Heap) : Prop := ∃ fA fd, Fn P w K mg base CX0 3 "is_good" s_is_good fA fd ["cell"] (sp_is_good K)
theorem okx_is_good (Z : Zs mg) {fA : Addr} {fd : FuncData} (F : Fun K "is_good" "is_good" s_is_good fA fd) (m : mg "is_good" = some (.ref fA)) (C_check_of : Ok_check_of P w K mg base) : Fn P w K mg base CX0 3 "is_good" s_is_good fA fd ["cell"] (sp_is_good K) := by
  obtain ⟨_, _, C_check_of⟩ := C_check_of
  refine ⟨F.ok sc_is_good (fun vs H Q E h => h.1) (fun cdv A outer s H vs Q E hr h => ?_), m, F.kp, F.binds fun _ _ _ _ _ _ us hl => match us, hl with | [_], _ => rfl, F⟩
  have hu64 := hr.units
  obtain ⟨hlen, h⟩ := h
  refine ⟨_, (pss_one (ps_ret (pe_cmpR (o_eqD K rfl hu64) (pe_slice (l_list K rfl) (pv 0) (po_some (pe_glob (v := .int (48)) rfl Z.c_LOAD_SIZE ⟨_, rfl⟩)) po_none) (pe_call C_check_of.G (hr.mono (by decide)) rfl C_check_of.m C_check_of.kp C_check_of.b .nil pass0 (pa_cons (pe_slice (l_list K rfl) (pv 0) po_none (po_some (pe_glob (v := .int (48)) rfl Z.c_LOAD_SIZE ⟨_, rfl⟩))) pa_nil)) (nomark _)))), ?_⟩
  obtain ⟨a, c, rfl, hS, hb, q⟩ := h
  walk_at "r"
  refine s_slL hS fun p hp => ?_
  have s1 := Stp.new (S := S0) (o := .lst (cutV (c.map V.int) (some 48) none)) (Same.refl H) hp
  walk_at "r"
  refine s_slL (s1.same.seq hS) fun p2 hp2 => ?_
  have s2 := Stp.new (S := S0) (o := .lst (cutV (c.map V.int) none (some 48))) s1.fh hp2
  have e1 : cutV (c.map V.int) (some 48) none = (c.drop 48).map V.int := by rw [show (some (48 : Int)) = some ((48 : Nat) : Int) from rfl, cutV_from, List.map_drop]
  have e2 : cutV (c.map V.int) none (some 48) = (c.take 48).map V.int := by rw [show (some (48 : Int)) = some ((48 : Nat) : Int) from rfl, cutV_to, List.map_take]
  walk_at "r"
  refine ⟨rfl, p2, c.take 48, rfl, SqL.of (by rw [upd_same, e2]), fun b hb2 => hb b (List.mem_of_mem_take hb2), fun p3 H3 s3 hp3 h3 => ?_⟩
  have hh := (s1.trans s2).same.trans s3
  refine s_eqL (ns := c.drop 48) (ms := fixL 8 (chk (c.take 48))) (SqL.of (s3 _ _ (s2.same _ _ ?_))) (SqL.of h3) (q H3 hh)
  rw [upd_same, e1]
abbrev s_cells_of : Stmt := topS 23
theorem sc_cells_of : FnScope ["protected", "group", "many", "rest"] ["protected", "group"] (defScope s_cells_of) := ⟨rfl, rfl, rfl, by decide +kernel, rfl, by decide +kernel, by decide +kernel⟩
def Ok_cells_of (P : Program) (w : World) (K : PySem.W.Frag) (mg : Str → Option Value) (base : Heap) : Prop := ∃ fA fd, Fn P w K mg base CX0 3 "cells_of" s_cells_of fA fd ["protected", "group"] (sp_cells_of K)
theorem okx_cells_of (Z : Zs mg) {fA : Addr} {fd : FuncData} (F : Fun K "cells_of" "cells_of" s_cells_of fA fd) (m : mg "cells_of" = some (.ref fA)) (C_cut_up : Ok_cut_up P w K mg base) (C_want_group : Ok_want_group P w K mg base) (C_check_bits : Ok_check_bits P w K mg base) : Fn P w K mg base CX0 3 "cells_of" s_cells_of fA fd ["protected", "group"] (sp_cells_of K) := by
  obtain ⟨_, _, C_cut_up⟩ := C_cut_up
  obtain ⟨_, _, C_want_group⟩ := C_want_group
  obtain ⟨_, _, C_check_bits⟩ := C_check_bits
  refine ⟨F.ok sc_cells_of (fun vs H Q E h => h.1) (fun cdv A outer s H vs Q E hr h => ?_), m, F.kp, F.binds fun _ _ _ _ _ _ us hl => match us, hl with | [_, _], _ => rfl, F⟩
  have hu64 := hr.units
  obtain ⟨hlen, h⟩ := h
  refine ⟨_, (pss_cons (ps_expr (pe_call C_check_bits.G (hr.mono (by decide)) rfl C_check_bits.m C_check_bits.kp C_check_bits.b .nil pass0 (pa_cons (pv 0) pa_nil)))
    (pss_cons (ps_expr (pe_call C_want_group.G (hr.mono (by decide)) rfl C_want_group.m C_want_group.kp C_want_group.b .nil pass0 (pa_cons (pv 1) pa_nil)))
    (pss_cons (ps_asg (pe_callB c_divmod (by rfl) Z.z_divmod (by decide +kernel) (pa_cons (pe_callB (c_len K rfl) (by rfl) Z.z_len (by decide +kernel) (pa_cons (pv 0) pa_nil)) (pa_cons (pe_glob (v := .int (56)) rfl Z.c_CELL_SIZE ⟨_, rfl⟩) pa_nil))) (pg_tup rfl (pgs_cons (pg_name (i := 2) sc_cells_of.nd rfl (Or.inl rfl)) (pgs_cons (pg_name (i := 3) sc_cells_of.nd rfl (Or.inl rfl)) pgs_nil))))
    (pss_cons (ps_if (PW.pt (pw_or (pt_cmpR op_ne (pv 3) pe_int (nomark _)) (pw_or (pt_cmpR op_eq (pv 2) pe_int (nomark _)) (pw_or1 (pt_cmpR op_eq (pe_op op_mod (pv 2) (pe_op op_add (pv 1) pe_int)) pe_int (nomark _))))))
      (pss_one ps_never)
      pss_nil)
    (pss_one (ps_ret (pe_call C_cut_up.G (hr.mono (by decide)) rfl C_cut_up.m C_cut_up.kp C_cut_up.b .nil pass0 (pa_cons (pv 0) (pa_cons (pe_glob (v := .int (56)) rfl Z.c_CELL_SIZE ⟨_, rfl⟩) pa_nil))))))))), ?_⟩
  obtain ⟨a, bs, g, n, rfl, hS, hb, hlen, hn0, hn, hg1, hg2, hm, q⟩ := h
  walk_at "r"
  refine ⟨rfl, a, bs, rfl, hS, hb, ?_⟩
  walk_at "r"
  refine ⟨rfl, g, rfl, hg1, hg2, ?_⟩
  walk_at "r"
  have el : ((bs.map V.int).length : Int) = (n : Int) * 56 := by rw [List.length_map, hlen]; simp
  refine ⟨_, _, rfl, ⟨by decide, by decide⟩, fun t ht => ?_⟩
  have s1 := Stp.new (S := S0) (o := .tup [.int (((bs.map V.int).length : Int) / 56), .int (((bs.map V.int).length : Int) % 56)]) (Same.refl H) ht
  walk_at "r"
  refine ifn (fun _ => ?_) (fun h => absurd (by rw [el]; omega) h)
  walk_at "r"
  refine ifd (fun h => absurd h (by rw [el]; omega)) (fun _ => ?_)
  walk_at "r"
  refine ifd (fun h => absurd h ?_) (fun _ => ?_)
  · rw [el, show (n : Int) * 56 / 56 = n by omega]; exact hm
  walk_at "r"
  refine ⟨rfl, a, bs.map V.int, 56, n, rfl, s1.same.seq hS, by rw [List.length_map, hlen], by decide, by decide, hn, fun p F' H' acc st hp hF rr => ?_⟩
  refine q p F' H' acc ⟨fun b o e => st.ff _ _ (s1.same _ _ e), st.fh, fun b o e => ?_, fun b o _ e => st.same _ _ (s1.same _ _ e), fun b o e => ⟨o, st.same _ _ (s1.same _ _ e)⟩⟩ ?_ hF rr
  · rw [st.ff _ _ (s1.same _ _ e), e]
  · exact s1.same.free hp
abbrev s_good : Stmt := topS 24
theorem sc_good : FnScope ["protected", "group", "cell"] ["protected", "group"] (defScope s_good) := ⟨rfl, rfl, rfl, by decide +kernel, rfl, by decide +kernel, by decide +kernel⟩
def Ok_good (P : Program) (w : World) (K : PySem.W.Frag) (mg : Str → Option Value) (base : Heap) : Prop := ∃ fA fd, Fn P w K mg base CX0 4 "good" s_good fA fd ["protected", "group"] (sp_good K)
theorem okx_good (Z : Zs mg) {fA : Addr} {fd : FuncData} (F : Fun K "good" "good" s_good fA fd) (m : mg "good" = some (.ref fA)) (C_cells_of : Ok_cells_of P w K mg base) (C_is_good : Ok_is_good P w K mg base) : Fn P w K mg base CX0 4 "good" s_good fA fd ["protected", "group"] (sp_good K) := by
  obtain ⟨_, _, C_cells_of⟩ := C_cells_of
  obtain ⟨_, _, C_is_good⟩ := C_is_good
  refine ⟨F.ok sc_good (fun vs H Q E h => h.1) (fun cdv A outer s H vs Q E hr h => ?_), m, F.kp, F.binds fun _ _ _ _ _ _ us hl => match us, hl with | [_, _], _ => rfl, F⟩
  have hu64 := hr.units
  obtain ⟨hlen, h⟩ := h
  refine ⟨_, (pss_one (ps_ret (pe_lc (own := [("cell", 2)]) (g := gName 2) (tt := tYes) (by rfl) sc_good.nd (pi_list (pe_call C_cells_of.G (hr.mono (by decide)) rfl C_cells_of.m C_cells_of.kp C_cells_of.b .nil pass0 (pa_cons (pv 0) (pa_cons (pv 1) pa_nil)))) (blkOk_by (own := [("cell", 2)]) (N := ["protected", "group", "cell"]) (sc := defScope s_good) (by decide +kernel)) (fun _ _ _ _ _ => (pg_name (i := 2) sc_good.nd rfl (Or.inl rfl))) (fun _ _ _ _ _ => pts_nil) (fun _ _ _ _ _ => (pe_call C_is_good.G (hr.mono (by decide)) rfl C_is_good.m C_is_good.kp C_is_good.b .nil pass0 (pa_cons (pv 2) pa_nil)))))), ?_⟩
  obtain ⟨a, bs, g, n, rfl, hS, hb, hlen, hn0, hn, hg1, hg2, hm, q⟩ := h
  walk_at "r"
  refine ⟨rfl, a, bs, g, n, rfl, hS, hb, hlen, hn0, hn, hg1, hg2, hm, fun p F' H' acc st hp hF rr => ?_⟩
  walk_at "r"
  have hL : SqL K H' p acc := SqL.of (st.fh _ _ hF)
  refine ⟨_, rfl, ⟨_, hL⟩, ?_⟩
  refine lcW (walk_list (xs := acc)) S0 st.fh (fun _ z => z.elim) (fun F1 H1 s => s.same.seq hL) (fun i out F1 H1 => out = (((List.range n).map fun i => goodL ((bs.drop (i * 56)).take 56)).map V.bl).take i) (fun _ _ _ _ _ _ _ _ _ r => r) rfl ?_ ?_
  · rintro i x out d F1 H1 H2 hi ⟨rfl, hx⟩ hd nS s1 f0 e hl ro
    rw [rr.1] at hi
    obtain ⟨r, e1, e2⟩ := rr.2 i hi
    rw [e1] at hx
    cases hx
    walk_at "r"
    have eb : ((bs.map V.int).drop (i * 56)).take 56 = ((bs.drop (i * 56)).take 56).map V.int := by rw [List.map_take, List.map_drop]
    refine ⟨rfl, r, (bs.drop (i * 56)).take 56, rfl, SqL.of ?_, fun b h => hb b (List.mem_of_mem_drop (List.mem_of_mem_take h)), fun H3 s3 => ?_⟩
    · rw [← eb]; exact s1.same _ _ (st.fh _ _ e2)
    refine lc_end hd nS s1 f0 e hl (by omega) ⟨Same.refl F1, s1.fh.trans s3, fun _ _ _ => rfl, fun b o _ h => s3 b o h, fun b o h => ⟨o, s3 b o h⟩⟩ ?_
    have hl2 : i < (((List.range n).map fun i => goodL ((bs.drop (i * 56)).take 56)).map V.bl).length := by simp; exact hi
    rw [ro, List.take_succ_eq_append_getElem hl2]
    simp
  · intro d out F0 F1 H1 s1 hd f0 ef st1 hl ro
    refine q d H1 (st.same.trans s1.same) (st.same.free hd) ?_
    rw [ef] at st1
    rw [st1.fh _ _ upd_same, ro, rr.1, List.take_of_length_le (by simp)]
abbrev s_law_well : Stmt := topS 26
theorem sc_law_well : FnScope ["_law_script", "_law_k", "_law_cell", "_law_depth"] ["_law_script", "_law_k"] (defScope s_law_well) := ⟨rfl, rfl, rfl, by decide +kernel, rfl, by decide +kernel, by decide +kernel⟩
def Ok_law_well (P : Program) (w : World) (K : PySem.W.Frag) (mg : Str → Option Value) (base : Heap) : Prop := ∃ fA fd, Fn P w K mg base CX0 1 "_law_well" s_law_well fA fd ["_law_script", "_law_k"] (sp_law_well K)
theorem okx_law_well (Z : Zs mg) {fA : Addr} {fd : FuncData} (F : Fun K "_law_well" "_law_well" s_law_well fA fd) (m : mg "_law_well" = some (.ref fA))  : Fn P w K mg base CX0 1 "_law_well" s_law_well fA fd ["_law_script", "_law_k"] (sp_law_well K) := by
  refine ⟨F.ok sc_law_well (fun vs H Q E h => h.1) (fun cdv A outer s H vs Q E hr h => ?_), m, F.kp, F.binds fun _ _ _ _ _ _ us hl => match us, hl with | [_, _], _ => rfl, F⟩
  have hu64 := hr.units
  obtain ⟨hlen, h⟩ := h
  refine ⟨_, (pss_cons (ps_set (i := 2) sc_law_well.nd rfl (Or.inl rfl) (pe_ifExp (pt_cmpR op_lt (pv 1) (pe_callB (c_len K rfl) (by rfl) Z.z_len (by decide +kernel) (pa_cons (pv 0) pa_nil)) (nomark _)) (pe_ix (i_list K rfl) (pv 0) (pv 1) (fun _ _ => rfl)) pe_int))
    (pss_cons (ps_set (i := 3) sc_law_well.nd rfl (Or.inl rfl) (pe_ifExp (pt_cmpR op_ge (pv 2) pe_int (nomark _)) (pv 2) (pe_op op_sub pe_int (pv 2))))
    (pss_one (ps_ret (pe_lst (pa_cons (pe_ifExp (pt_cmpR op_ge (pv 3) (pe_op op_pow pe_int pe_int) (nomark _)) (pv 3) pe_int) (pa_cons (pe_op op_mod (pe_callTy c_int1 (by rfl) Z.z_int (by decide +kernel) (pa_cons (pe_op op_add (pe_op op_add (pe_op op_add (pe_op op_mul (pe_op op_mod (pe_callTy c_int1 (by rfl) Z.z_int (by decide +kernel) (pa_cons (pv 3) pa_nil)) pe_int) pe_int) (pe_op op_mul pe_int (pv 1))) (pe_callTy c_int1 (by rfl) Z.z_int (by decide +kernel) (pa_cons (pe_cmpR op_lt (pv 2) pe_int (nomark _)) pa_nil))) pe_int) pa_nil)) pe_int) pa_nil))))))), ?_⟩
  obtain ⟨s, ns, k, rfl, hS, hk0, hk, q⟩ := h
  have fin : ∀ (x y : Int), 0 ≤ y → y < 2147483629 → (∀ p, H p = none → Q (.ref p) (upd H p (.lst [.int x, .int y]))) := fun x y y0 y1 p hp =>
    q p _ ⟨(Stp.new (S := S0) (Same.refl H) hp).same, hp, x, y, upd_same, y0, by omega⟩
  have end_ : ∀ c x : Int, (if decide (c < 0) = true then (1 : Int) else 0) ≤ 1 ∧ 0 ≤ (if decide (c < 0) = true then (1 : Int) else 0) := fun c x => by split <;> decide
  walk_at "r"
  have key : ∀ c : Int, True := fun _ => trivial
  refine ifd (fun h => ?_) (fun h => ?_)
  · walk_at "r"
    have hl : k.toNat < ns.length := by simp at h; omega
    refine s_ixL hS (at_of (j := k.toNat) (by omega) (get_int hl)) ?_
    walk_at "r"
    refine ifd (fun h => ?_) (fun h => ?_)
    · walk_at "r"
      refine ifd (fun h => ?_) (fun h => ?_)
      · walk_at "r"
        exact ⟨sz (by simp), fin _ _ (Int.emod_nonneg _ (by decide)) (Int.emod_lt_of_pos _ (by decide))⟩
      · walk_at "r"
        exact ⟨sz (by simp), fin _ _ (Int.emod_nonneg _ (by decide)) (Int.emod_lt_of_pos _ (by decide))⟩
    · walk_at "r"
      refine ifd (fun h => ?_) (fun h => ?_)
      · walk_at "r"
        exact ⟨sz (by simp), fin _ _ (Int.emod_nonneg _ (by decide)) (Int.emod_lt_of_pos _ (by decide))⟩
      · walk_at "r"
        exact ⟨sz (by simp), fin _ _ (Int.emod_nonneg _ (by decide)) (Int.emod_lt_of_pos _ (by decide))⟩
  · walk_at "r"
    refine ifd (fun h => ?_) (fun h => absurd (by decide) h)
    walk_at "r"
    refine ifd (fun h => ?_) (fun h => ?_)
    · walk_at "r"
      exact ⟨sz (by simp), fin _ _ (Int.emod_nonneg _ (by decide)) (Int.emod_lt_of_pos _ (by decide))⟩
    · walk_at "r"
      exact ⟨sz (by simp), fin _ _ (Int.emod_nonneg _ (by decide)) (Int.emod_lt_of_pos _ (by decide))⟩
abbrev s_law_drop : Stmt := topS 27
theorem sc_law_drop : FnScope ["_law_well_here", "_law_top", "_law_part"] ["_law_well_here", "_law_top"] (defScope s_law_drop) := ⟨rfl, rfl, rfl, by decide +kernel, rfl, by decide +kernel, by decide +kernel⟩
def Ok_law_drop (P : Program) (w : World) (K : PySem.W.Frag) (mg : Str → Option Value) (base : Heap) : Prop := ∃ fA fd, Fn P w K mg base CX0 1 "_law_drop" s_law_drop fA fd ["_law_well_here", "_law_top"] (sp_law_drop K)
theorem okx_law_drop (Z : Zs mg) {fA : Addr} {fd : FuncData} (F : Fun K "_law_drop" "_law_drop" s_law_drop fA fd) (m : mg "_law_drop" = some (.ref fA))  : Fn P w K mg base CX0 1 "_law_drop" s_law_drop fA fd ["_law_well_here", "_law_top"] (sp_law_drop K) := by
  refine ⟨F.ok sc_law_drop (fun vs H Q E h => h.1) (fun cdv A outer s H vs Q E hr h => ?_), m, F.kp, F.binds fun _ _ _ _ _ _ us hl => match us, hl with | [_, _], _ => rfl, F⟩
  have hu64 := hr.units
  obtain ⟨hlen, h⟩ := h
  refine ⟨_, (pss_cons (ps_if (pt_cmpR op_gt (pe_ix (i_list K rfl) (pv 0) pe_int (fun _ _ => rfl)) pe_int (nomark _))
      (pss_cons (ps_set (i := 2) sc_law_drop.nd rfl (Or.inl rfl) (pe_op op_mod (pe_callTy c_int1 (by rfl) Z.z_int (by decide +kernel) (pa_cons (pe_ix (i_list K rfl) (pv 0) pe_int (fun _ _ => rfl)) pa_nil)) (pv 1)))
    (pss_cons (ps_asg (pe_op op_fdiv (pe_ix (i_list K rfl) (pv 0) pe_int (fun _ _ => rfl)) (pv 1)) (pg_sub (pv 0) pe_int set_list))
    (pss_one (ps_ret (pv 2)))))
      pss_nil)
    (pss_cons (ps_asg (pe_op op_mod (pe_callTy c_int1 (by rfl) Z.z_int (by decide +kernel) (pa_cons (pe_op op_add (pe_op op_mul (pe_ix (i_list K rfl) (pv 0) pe_int (fun _ _ => rfl)) pe_int) pe_int) pa_nil)) pe_int) (pg_sub (pv 0) pe_int set_list))
    (pss_one (ps_ret (pe_op op_mod (pe_callTy c_int1 (by rfl) Z.z_int (by decide +kernel) (pa_cons (pe_op op_fdiv (pe_op op_mod (pe_callTy c_int1 (by rfl) Z.z_int (by decide +kernel) (pa_cons (pe_op op_mul (pe_ix (i_list K rfl) (pv 0) pe_int (fun _ _ => rfl)) (pe_ix (i_list K rfl) (pv 0) pe_int (fun _ _ => rfl))) pa_nil)) pe_int) pe_int) pa_nil)) (pv 1)))))), ?_⟩
  obtain ⟨F0, p, t, rfl, hs, ht, ht2, q⟩ := h
  obtain ⟨hs0, hp0, a, b, hp, hb0, hb1⟩ := id hs
  have st : ∀ o, Stp (S1 p) F0 H F0 (upd H p o) := fun o => Stp.wr hs0 rfl hp0
  have ub : ∀ z : Int, 0 ≤ z % 2147483629 ∧ z % 2147483629 < 2147483647 := fun z => ⟨Int.emod_nonneg _ (by decide), Int.lt_trans (Int.emod_lt_of_pos _ (by decide)) (by decide)⟩
  walk_at "r"
  refine ifd (fun h => ?_) (fun h => ?_)
  · walk_at "r"
    exact q _ _ (hs.wr hb0 hb1) (st _) (Int.emod_nonneg _ (by omega)) (Int.emod_lt_of_pos _ ht)
  · walk_at "r"
    exact q _ _ (hs.wr (ub _).1 (ub _).2) (st _) (Int.emod_nonneg _ (by omega)) (Int.emod_lt_of_pos _ ht)
abbrev s_law_turned : Stmt := topS 30
theorem sc_law_turned : FnScope ["_law_cell", "_law_spots_here", "_law_at"] ["_law_cell", "_law_spots_here"] (defScope s_law_turned) := ⟨rfl, rfl, rfl, by decide +kernel, rfl, by decide +kernel, by decide +kernel⟩
def Ok_law_turned (P : Program) (w : World) (K : PySem.W.Frag) (mg : Str → Option Value) (base : Heap) : Prop := ∃ fA fd, Fn P w K mg base CX0 1 "_law_turned" s_law_turned fA fd ["_law_cell", "_law_spots_here"] (sp_law_turned K)
theorem okx_law_turned (Z : Zs mg) {fA : Addr} {fd : FuncData} (F : Fun K "_law_turned" "_law_turned" s_law_turned fA fd) (m : mg "_law_turned" = some (.ref fA))  : Fn P w K mg base CX0 1 "_law_turned" s_law_turned fA fd ["_law_cell", "_law_spots_here"] (sp_law_turned K) := by
  refine ⟨F.ok sc_law_turned (fun vs H Q E h => h.1) (fun cdv A outer s H vs Q E hr h => ?_), m, F.kp, F.binds fun _ _ _ _ _ _ us hl => match us, hl with | [_, _], _ => rfl, F⟩
  have hu64 := hr.units
  obtain ⟨hlen, h⟩ := h
  refine ⟨_, (pss_one (ps_ret (pe_lc (own := [("_law_at", 2)]) (g := gName 2) (tt := tYes) (by rfl) sc_law_turned.nd (pi_range1 rfl Z.z_range (pa_cons (pe_callB (c_len K rfl) (by rfl) Z.z_len (by decide +kernel) (pa_cons (pv 0) pa_nil)) pa_nil)) (blkOk_by (own := [("_law_at", 2)]) (N := ["_law_cell", "_law_spots_here", "_law_at"]) (sc := defScope s_law_turned) (by decide +kernel)) (fun _ _ _ _ _ => (pg_name (i := 2) sc_law_turned.nd rfl (Or.inl rfl))) (fun _ _ _ _ _ => pts_nil) (fun _ _ _ _ _ => (pe_ifExp (pt_cmpR (o_in K rfl) (pv 2) (pv 1) rfl) (pe_op op_sub pe_int (pe_ix (i_list K rfl) (pv 0) (pv 2) (fun _ _ => rfl))) (pe_ix (i_list K rfl) (pv 0) (pv 2) (fun _ _ => rfl))))))), ?_⟩
  obtain ⟨a, b, c, L, rfl, hc, hlen, hL, q⟩ := h
  walk_at "r"
  refine ⟨_, rfl, by simp [hlen], by simp [hlen], ?_⟩
  refine lcW walk_range S0 (Same.refl H) (fun _ z => z.elim) (fun _ _ _ => trivial) (fun i out F1 H1 => out = ((flipL (ind L) 0 c).map V.int).take i) (fun _ _ _ _ _ _ _ _ _ r => r) rfl ?_ ?_
  · rintro i x out d F1 H1 H2 hi ⟨rfl, rfl⟩ hd nS s1 f0 e hl ro
    have hi56 : i < 56 := by simp [hlen] at hi; exact hi
    have hic : i < c.length := by omega
    have hl2 : i < ((flipL (ind L) 0 c).map V.int).length := by simp [flipL_len]; omega
    have mem : (0 + (i : Int) ∈ spotsV L) ↔ i ∈ L := by
      unfold spotsV
      simp only [List.mem_map, List.mem_filter, List.mem_range, decide_eq_true_eq]
      exact ⟨fun ⟨j, ⟨h1, h2⟩, h3⟩ => by rw [show i = j by omega]; exact h2, fun h => ⟨i, ⟨hi56, h⟩, by omega⟩⟩
    have nxt : ((flipL (ind L) 0 c).map V.int)[i]'hl2 = V.int (if ind L i then 1 - c[i] else c[i]) := by
      have h := flipL_at (ind L) c 0 i
      rw [List.getElem?_eq_getElem hic, Nat.zero_add] at h
      have h3 : i < (flipL (ind L) 0 c).length := by rw [flipL_len]; exact hic
      rw [List.getElem?_eq_getElem h3] at h
      rw [List.getElem_map, Option.some.inj h]
    have done : ∀ y, y = V.int (if ind L i then 1 - c[i] else c[i]) → ∃ acc', H2 d = some (.lst acc') ∧ acc'.length < sizeLine ∧ LcP S0 H H d (fun i out F1 H1 => out = ((flipL (ind L) 0 c).map V.int).take i) (i + 1) (upd H2 d (.lst (acc' ++ [y]))) := fun y hy => by
      refine lc_end hd nS s1 f0 e hl (by omega) (.rfl' s1.fh) ?_
      rw [ro, List.take_succ_eq_append_getElem hl2, hy, nxt]
    walk_at "r"
    refine s_inI (s1.same.seq hL) ?_
    walk_at "r"
    refine ifd (fun h => ?_) (fun h => ?_)
    · walk_at "r"
      refine s_ixL (s1.same.seq hc) (at_of (j := i) (by omega) (get_int hic)) ?_
      walk_at "r"
      exact done _ (by rw [if_pos (by simp [ind, mem.mp h])])
    · walk_at "r"
      refine s_ixL (s1.same.seq hc) (at_of (j := i) (by omega) (get_int hic)) ?_
      exact done _ (by rw [if_neg (by simp [ind]; exact fun z => h (mem.mpr z))])
  · intro d out F0 F1 H1 s1 hd f0 ef st1 hl ro
    refine q d H1 s1.same hd ?_
    rw [ef] at st1
    rw [st1.fh _ _ upd_same, ro, List.take_of_length_le (by simp [flipL_len, hlen])]
abbrev s_law_spots : Stmt := topS 29
theorem sc_law_spots : FnScope ["_law_well_here", "_law_found", "_law_begin", "_law_turn", "_law_spot", "_law_step"] ["_law_well_here"] (defScope s_law_spots) := ⟨rfl, rfl, rfl, by decide +kernel, rfl, by decide +kernel, by decide +kernel⟩
def Ok_law_spots (P : Program) (w : World) (K : PySem.W.Frag) (mg : Str → Option Value) (base : Heap) : Prop := ∃ fA fd, Fn P w K mg base CX0 2 "_law_spots" s_law_spots fA fd ["_law_well_here"] (sp_law_spots K)
theorem okx_law_spots (Z : Zs mg) {fA : Addr} {fd : FuncData} (F : Fun K "_law_spots" "_law_spots" s_law_spots fA fd) (m : mg "_law_spots" = some (.ref fA)) (C_law_drop : Ok_law_drop P w K mg base) : Fn P w K mg base CX0 2 "_law_spots" s_law_spots fA fd ["_law_well_here"] (sp_law_spots K) := by
  obtain ⟨_, _, C_law_drop⟩ := C_law_drop
  refine ⟨F.ok sc_law_spots (fun vs H Q E h => h.1) (fun cdv A outer s H vs Q E hr h => ?_), m, F.kp, F.binds fun _ _ _ _ _ _ us hl => match us, hl with | [_], _ => rfl, F⟩
  have hu64 := hr.units
  obtain ⟨hlen, h⟩ := h
  refine ⟨_, (pss_cons (ps_if (pt_cmpR op_eq (pe_call C_law_drop.G (hr.mono (by decide)) rfl C_law_drop.m C_law_drop.kp C_law_drop.b .nil pass0 (pa_cons (pv 0) (pa_cons pe_int pa_nil))) pe_int (nomark _))
      (pss_cons (ps_set (i := 1) sc_law_spots.nd rfl (Or.inr rfl) (pe_lc (own := [("_law_turn", 3)]) (g := gName 3) (tt := tYes) (by rfl) sc_law_spots.nd (pi_range1 rfl Z.z_range (pa_cons (pe_op op_add pe_int (pe_call C_law_drop.G (hr.mono (by decide)) rfl C_law_drop.m C_law_drop.kp C_law_drop.b .nil pass0 (pa_cons (pv 0) (pa_cons pe_int pa_nil)))) pa_nil)) (blkOk_by (own := [("_law_turn", 3)]) (N := ["_law_well_here", "_law_found", "_law_begin", "_law_turn", "_law_spot", "_law_step"]) (sc := defScope s_law_spots) (by decide +kernel)) (fun _ _ _ _ _ => (pg_name (i := 3) sc_law_spots.nd rfl (Or.inl rfl))) (fun _ _ _ _ _ => pts_nil) (fun _ _ _ _ _ => (pe_call C_law_drop.G (hr.mono (by decide)) rfl C_law_drop.m C_law_drop.kp C_law_drop.b .nil pass0 (pa_cons (pv 0) (pa_cons pe_int pa_nil))))))
    (pss_one (ps_ret (pe_lc (own := [("_law_spot", 4)]) (g := gName 4) (tt := _) (by rfl) sc_law_spots.nd (pi_range1 rfl Z.z_range (pa_cons pe_int pa_nil)) (blkOk_by (own := [("_law_spot", 4)]) (N := ["_law_well_here", "_law_found", "_law_begin", "_law_turn", "_law_spot", "_law_step"]) (sc := defScope s_law_spots) (by decide +kernel)) (fun _ _ _ _ _ => (pg_name (i := 4) sc_law_spots.nd rfl (Or.inl rfl))) (fun _ _ _ _ _ => pts_one (pt_cmpR (o_in K rfl) (pv 4) (pv 1) rfl)) (fun _ _ _ _ _ => (pv 4))))))
      pss_nil)
    (pss_cons (ps_set (i := 2) sc_law_spots.nd rfl (Or.inr rfl) (pe_call C_law_drop.G (hr.mono (by decide)) rfl C_law_drop.m C_law_drop.kp C_law_drop.b .nil pass0 (pa_cons (pv 0) (pa_cons pe_int pa_nil))))
    (pss_cons (ps_set (i := 1) sc_law_spots.nd rfl (Or.inr rfl) (pe_op op_cat (pe_lst (pa_cons (pe_op op_add (pv 2) (pe_call C_law_drop.G (hr.mono (by decide)) rfl C_law_drop.m C_law_drop.kp C_law_drop.b .nil pass0 (pa_cons (pv 0) (pa_cons pe_int pa_nil)))) pa_nil)) (pe_lc (own := [("_law_step", 5)]) (g := gName 5) (tt := _) (by rfl) sc_law_spots.nd (pi_range1 rfl Z.z_range (pa_cons pe_int pa_nil)) (blkOk_by (own := [("_law_step", 5)]) (N := ["_law_well_here", "_law_found", "_law_begin", "_law_turn", "_law_spot", "_law_step"]) (sc := defScope s_law_spots) (by decide +kernel)) (fun _ _ _ _ _ => (pg_name (i := 5) sc_law_spots.nd rfl (Or.inl rfl))) (fun _ _ _ _ _ => pts_one (pt_cmpR op_eq (pe_call C_law_drop.G (hr.mono (by decide)) rfl C_law_drop.m C_law_drop.kp C_law_drop.b .nil pass0 (pa_cons (pv 0) (pa_cons pe_int pa_nil))) pe_int (nomark _))) (fun _ _ _ _ _ => (pe_op op_add (pv 2) (pv 5))))))
    (pss_one (ps_ret (pe_lc (own := [("_law_spot", 4)]) (g := gName 4) (tt := _) (by rfl) sc_law_spots.nd (pi_range1 rfl Z.z_range (pa_cons pe_int pa_nil)) (blkOk_by (own := [("_law_spot", 4)]) (N := ["_law_well_here", "_law_found", "_law_begin", "_law_turn", "_law_spot", "_law_step"]) (sc := defScope s_law_spots) (by decide +kernel)) (fun _ _ _ _ _ => (pg_name (i := 4) sc_law_spots.nd rfl (Or.inl rfl))) (fun _ _ _ _ _ => pts_one (pt_cmpR (o_in K rfl) (pv 4) (pv 1) rfl)) (fun _ _ _ _ _ => (pv 4)))))))), ?_⟩
  obtain ⟨F0, p, rfl, hs, q⟩ := h
  have fin : ∀ (L : List Nat) (F1 H1 : Hp), True := fun _ _ _ => trivial
  walk_at "r"
  refine ⟨rfl, F0, p, _, rfl, hs, by decide, by decide, fun r1 H1 s1 t1 r10 r11 => ?_⟩
  walk_at "r"
  refine ifd (fun h => ?_) (fun h => ?_)
  · walk_at "r"
    refine ⟨rfl, F0, p, _, rfl, s1, by decide, by decide, fun r2 H2 s2 t2 r20 r21 => ?_⟩
    walk_at "r"
    refine ⟨_, rfl, by omega, by omega, ?_⟩
    refine lcW walk_range (S1 p) s2.1 (fun b e => e ▸ s2.dom) (fun _ _ _ => trivial) (fun i acc F H => Src F H p ∧ ∃ L : List Nat, acc = (L.map fun (x : Nat) => (x : Int)).map V.int ∧ L.length = i ∧ ∀ x ∈ L, x < 56)
      (fun _ _ _ _ _ _ n f _ r => ⟨r.1.upd n f, r.2⟩) ⟨s2, [], rfl, rfl, fun _ h => absurd h (by simp)⟩ ?_ ?_
    · rintro i x acc d F1 H3 H4 hi ⟨rfl, rfl⟩ hd nS st f0 e hl ⟨rs, L, rl, rn, rb⟩
      walk_at "r"
      refine ⟨rfl, F1, p, _, rfl, rs, by decide, by decide, fun r H5 s5 t5 r50 r51 => lc_end hd nS st f0 e hl (by omega) t5 ⟨s5.upd nS f0, L ++ [r.toNat], ?_, by simp [rn], ?_⟩⟩
      · rw [rl]; simp; omega
      · intro x hx
        rcases List.mem_append.mp hx with hx | hx
        · exact rb x hx
        · simp at hx; omega
    · intro d acc F1 F2 H3 st hd f0 ef st1 hl ⟨rs, L, rl, rn, rb⟩
      subst ef
      have np := s2.ne hd
      have s5 := rs.frz np st1.fh
      have t5 := (t1.trans t2).trans st1
      have hLd : H3 d = some (.lst ((L.map fun (x : Nat) => (x : Int)).map V.int)) := by rw [← rl]; exact st1.fh _ _ upd_same
      have ok : SpotsOk L := ⟨fun z => by subst z; simp at rn; omega, rb, .inl (by omega)⟩
      walk_at "r"
      refine ⟨_, rfl, by decide, by decide, ?_⟩
      refine lcW walk_range S0 s5.1 (fun _ z => z.elim) (fun _ _ _ => trivial) (fun i acc F H => acc = (((List.range i).filter fun j => decide (j ∈ L)).map fun (j : Nat) => (j : Int)).map V.int) (fun _ _ _ _ _ _ _ _ _ r => r) rfl ?_ ?_
      · rintro i x acc d' F3 H4 H5 hi ⟨rfl, rfl⟩ hd' nS' st' f0' e' hl' rr
        have mem : (0 + (i : Int) ∈ L.map fun (x : Nat) => (x : Int)) ↔ i ∈ L := by
          simp only [List.mem_map]
          exact ⟨fun ⟨j, h1, h2⟩ => by rw [show i = j by omega]; exact h1, fun h => ⟨i, h, by omega⟩⟩
        walk_at "r"
        refine s_inI (ns := L.map fun (x : Nat) => (x : Int)) (st'.same.seq (SqL.of hLd)) ?_
        walk_at "r"
        refine ifd (fun h => ?_) (fun h => ?_)
        · walk_at "r"
          refine lc_end hd' nS' st' f0' e' hl' (by omega) (.rfl' st'.fh) ?_
          rw [rr, List.range_succ, List.filter_append]
          simp [mem.mp h]
        · refine lc_skip hd' nS' st' f0' e' hl' (.rfl' st'.fh) ?_
          have : ¬ i ∈ L := fun z => h (mem.mpr z)
          rw [rr, List.range_succ, List.filter_append]
          simp [this]
      · intro d' acc' F3 F4 H4 st' hd' f0' ef' st1' hl' rr
        rw [ef'] at st1'
        have s8 : Src F3 H4 p := by
          obtain ⟨u0, u1, ux, uy, ue, uz⟩ := s5
          exact ⟨st'.fh, (st'.fo _ _ ue).trans u1, ux, uy, st'.same _ _ ue, uz⟩
        exact q d' L _ H4 (s8.frz (s5.ne hd') st1'.fh) (t5.trans st1'.up) (by rw [upd_same, rr]; rfl) ok
  · walk_at "r"
    refine ⟨rfl, F0, p, _, rfl, s1, by decide, by decide, fun r2 H2 s2 t2 r20 r21 => ?_⟩
    walk_at "r"
    refine ⟨rfl, F0, p, _, rfl, s2, by decide, by decide, fun r3 H3 s3 t3 r30 r31 => ?_⟩
    walk_at "r"
    refine ⟨sz (by simp), fun a ha => ?_⟩
    have s4 := s3.new (o := .lst [.int (r2 + r3)]) ha
    have t4 := ((t1.trans t2).trans t3).trans (Stp.new (S := S1 p) (o := .lst [.int (r2 + r3)]) s3.1 ha)
    walk_at "r"
    refine ⟨_, rfl, by decide, by decide, ?_⟩
    refine lcW walk_range (S1 p) s4.1 (fun b e => e ▸ s4.dom) (fun _ _ _ => trivial) (fun i acc F H => Src F H p ∧ ∃ L : List Nat, acc = (L.map fun (x : Nat) => (x : Int)).map V.int ∧ ∀ x ∈ L, r2.toNat ≤ x ∧ x < r2.toNat + 8)
      (fun _ _ _ _ _ _ n f _ r => ⟨r.1.upd n f, r.2⟩) ⟨s4, [], rfl, fun _ h => absurd h (by simp)⟩ ?_ ?_
    · rintro i x acc d F1 H5 H6 hi ⟨rfl, rfl⟩ hd nS st f0 e hl ⟨rs, L, rl, rb⟩
      walk_at "r"
      refine ⟨rfl, F1, p, _, rfl, rs, by decide, by decide, fun r H7 s7 t7 r70 r71 => ?_⟩
      walk_at "r"
      refine ifd (fun h => ?_) (fun h => ?_)
      · walk_at "r"
        refine lc_end hd nS st f0 e hl (by omega) t7 ⟨s7.upd nS f0, L ++ [r2.toNat + i], ?_, ?_⟩
        · rw [rl]; simp; omega
        · intro x hx
          rcases List.mem_append.mp hx with hx | hx
          · exact rb x hx
          · simp at hx; omega
      · exact lc_skip hd nS st f0 e hl t7 ⟨s7, L, rl, rb⟩
    · intro d acc F1 F2 H5 st hd f0 ef st1 hl ⟨rs, L, rl, rb⟩
      subst ef
      have np := s4.ne hd
      have s6 := rs.frz np st1.fh
      have had : H5 a = some (.lst [.int (r2 + r3)]) := st1.fh _ _ (st1.ff _ _ upd_same)
      have hdd : H5 d = some (.lst acc) := st1.fh _ _ upd_same
      refine ⟨_, _, _, _, rfl, rfl, had, hdd, sz (by simp; omega), fun c hc => ?_⟩
      have s5 := s6.new (o := .lst ([.int (r2 + r3)] ++ acc)) hc
      have t5 := (t4.trans st1).trans (Stp.new (S := S1 p) (o := .lst ([.int (r2 + r3)] ++ acc)) s6.1 hc)
      have hLd : upd H5 c (.lst ([.int (r2 + r3)] ++ acc)) c = some (.lst ((((r2 + r3).toNat :: L).map fun (x : Nat) => (x : Int)).map V.int)) := by
        rw [upd_same, rl]; simp; omega
      have ok : SpotsOk ((r2 + r3).toNat :: L) := ⟨by simp, fun x hx => by
        rcases List.mem_cons.mp hx with hx | hx
        · omega
        · have := rb x hx; omega, .inr ⟨r2.toNat, by omega, fun x hx => by
        rcases List.mem_cons.mp hx with hx | hx
        · omega
        · exact rb x hx⟩⟩
      generalize ((r2 + r3).toNat :: L) = LX at hLd ok
      walk_at "r"
      refine ⟨_, rfl, by decide, by decide, ?_⟩
      refine lcW walk_range S0 s5.1 (fun _ z => z.elim) (fun _ _ _ => trivial) (fun i acc F H => acc = (((List.range i).filter fun j => decide (j ∈ LX)).map fun (j : Nat) => (j : Int)).map V.int) (fun _ _ _ _ _ _ _ _ _ r => r) rfl ?_ ?_
      · rintro i x acc d' F3 H4 H5 hi ⟨rfl, rfl⟩ hd' nS' st' f0' e' hl' rr
        have mem : (0 + (i : Int) ∈ LX.map fun (x : Nat) => (x : Int)) ↔ i ∈ LX := by
          simp only [List.mem_map]
          exact ⟨fun ⟨j, h1, h2⟩ => by rw [show i = j by omega]; exact h1, fun h => ⟨i, h, by omega⟩⟩
        walk_at "r"
        refine s_inI (ns := LX.map fun (x : Nat) => (x : Int)) (st'.same.seq (SqL.of hLd)) ?_
        walk_at "r"
        refine ifd (fun h => ?_) (fun h => ?_)
        · walk_at "r"
          refine lc_end hd' nS' st' f0' e' hl' (by omega) (.rfl' st'.fh) ?_
          rw [rr, List.range_succ, List.filter_append]
          simp [mem.mp h]
        · refine lc_skip hd' nS' st' f0' e' hl' (.rfl' st'.fh) ?_
          have : ¬ i ∈ LX := fun z => h (mem.mpr z)
          rw [rr, List.range_succ, List.filter_append]
          simp [this]
      · intro d' acc' F3 F4 H4 st' hd' f0' ef' st1' hl' rr
        rw [ef'] at st1'
        have s8 : Src F3 H4 p := by
          obtain ⟨u0, u1, ux, uy, ue, uz⟩ := s5
          exact ⟨st'.fh, (st'.fo _ _ ue).trans u1, ux, uy, st'.same _ _ ue, uz⟩
        exact q d' LX _ H4 (s8.frz (s5.ne hd') st1'.fh) (t5.trans st1'.up) (by rw [upd_same, rr]; rfl) ok
abbrev s_law : Stmt := topS 31
theorem sc_law : FnScope ["_law_script", "_law_k", "_law_well_here", "_law_load", "_law_cell", "_law_turn", "_law_other"] ["_law_script"] (defScope s_law) := ⟨rfl, rfl, rfl, by decide +kernel, rfl, by decide +kernel, by decide +kernel⟩
def Ok_law (P : Program) (w : World) (K : PySem.W.Frag) (mg : Str → Option Value) (base : Heap) : Prop := ∃ fA fd, Fn P w K mg base CX0 5 "law" s_law fA fd ["_law_script"] (sp_law K)
theorem okx_law (Z : Zs mg) {fA : Addr} {fd : FuncData} (F : Fun K "law" "law" s_law fA fd) (m : mg "law" = some (.ref fA)) (C_good : Ok_good P w K mg base) (C_law_turned : Ok_law_turned P w K mg base) (C_law_spots : Ok_law_spots P w K mg base) (C_check : Ok_check P w K mg base) (C_law_drop : Ok_law_drop P w K mg base) (C_law_well : Ok_law_well P w K mg base) : Fn P w K mg base CX0 5 "law" s_law fA fd ["_law_script"] (sp_law K) := by
  obtain ⟨_, _, C_good⟩ := C_good
  obtain ⟨_, _, C_law_turned⟩ := C_law_turned
  obtain ⟨_, _, C_law_spots⟩ := C_law_spots
  obtain ⟨_, _, C_check⟩ := C_check
  obtain ⟨_, _, C_law_drop⟩ := C_law_drop
  obtain ⟨_, _, C_law_well⟩ := C_law_well
  refine ⟨F.ok sc_law (fun vs H Q E h => h.1) (fun cdv A outer s H vs Q E hr h => ?_), m, F.kp, F.binds fun _ _ _ _ _ _ us hl => match us, hl with | [_], _ => rfl, F⟩
  have hu64 := hr.units
  obtain ⟨hlen, h⟩ := h
  refine ⟨_, (pss_cons (ps_for PassesOwn.never rfl (pi_range1 rfl Z.z_range (pa_cons (pe_callB (c_max2 rfl) (by rfl) Z.z_max (by decide +kernel) (pa_cons pe_int (pa_cons (pe_callB (c_min2 rfl) (by rfl) Z.z_min (by decide +kernel) (pa_cons (pe_callB (c_len K rfl) (by rfl) Z.z_len (by decide +kernel) (pa_cons (pv 0) pa_nil)) (pa_cons pe_int pa_nil))) pa_nil))) pa_nil)) (pg_name (i := 1) sc_law.nd rfl (Or.inl rfl))
      (pss_cons (ps_set (i := 2) sc_law.nd rfl (Or.inr rfl) (pe_call C_law_well.G (hr.mono (by decide)) rfl C_law_well.m C_law_well.kp C_law_well.b .nil pass0 (pa_cons (pv 0) (pa_cons (pv 1) pa_nil))))
    (pss_cons (ps_setLc (i := 3) (own := [("_law_turn", 5)]) (g := gName 5) (tt := tYes) (by rfl) sc_law.nd rfl rfl (sw_true rfl rfl rfl (by decide +kernel)) (pi_range1 rfl Z.z_range (pa_cons pe_int pa_nil)) (blkOk_by (own := [("_law_turn", 5)]) (N := ["_law_script", "_law_k", "_law_well_here", "_law_load", "_law_cell", "_law_turn", "_law_other"]) (sc := defScope s_law) (by decide +kernel)) (fun _ _ _ _ _ => (pg_name (i := 5) sc_law.nd rfl (Or.inl rfl))) (fun _ _ _ _ _ => pts_nil) (fun _ _ _ _ _ => (pe_call C_law_drop.G (hr.mono (by decide)) rfl C_law_drop.m C_law_drop.kp C_law_drop.b .nil pass0 (pa_cons (pv 2) (pa_cons pe_int pa_nil)))))
    (pss_cons (ps_set (i := 4) sc_law.nd rfl (Or.inl rfl) (pe_op op_cat (pv 3) (pe_call C_check.G (hr.mono (by decide)) rfl C_check.m C_check.kp C_check.b .nil pass0 (pa_cons (pv 3) pa_nil))))
    (pss_cons (ps_if (PW.pt (pw_or (pt_cmpR op_ne (pe_callB (c_len K rfl) (by rfl) Z.z_len (by decide +kernel) (pa_cons (pv 4) pa_nil)) pe_int (nomark _)) (pw_or1 (pt_cmpR (o_neD K rfl hu64) (pe_call C_good.G (hr.mono (by decide)) rfl C_good.m C_good.kp C_good.b .nil pass0 (pa_cons (pe_op op_cat (pv 4) (pv 4)) (pa_cons pe_int pa_nil))) (pe_lst (pa_cons pe_bl (pa_cons pe_bl pa_nil))) (nomark _)))))
      (pss_one (ps_ret pe_bl))
      pss_nil)
    (pss_one (ps_for PassesOwn.never rfl (pi_range1 rfl Z.z_range (pa_cons pe_int pa_nil)) (pg_name (i := 5) sc_law.nd rfl (Or.inl rfl))
      (pss_cons (ps_set (i := 6) sc_law.nd rfl (Or.inl rfl) (pe_call C_law_turned.G (hr.mono (by decide)) rfl C_law_turned.m C_law_turned.kp C_law_turned.b .nil pass0 (pa_cons (pv 4) (pa_cons (pe_call C_law_spots.G (hr.mono (by decide)) rfl C_law_spots.m C_law_spots.kp C_law_spots.b .nil pass0 (pa_cons (pv 2) pa_nil)) pa_nil))))
    (pss_cons (ps_if (pt_cmpR (o_eqD K rfl hu64) (pv 6) (pv 4) (nomark _))
      (pss_one (ps_ret pe_bl))
      pss_nil)
    (pss_one (ps_if (PW.pt (pw_or (pt_cmpR (o_neD K rfl hu64) (pe_call C_good.G (hr.mono (by decide)) rfl C_good.m C_good.kp C_good.b .nil pass0 (pa_cons (pe_op op_cat (pv 6) (pv 4)) (pa_cons pe_int pa_nil))) (pe_lst (pa_cons pe_bl (pa_cons pe_bl pa_nil))) (nomark _)) (pw_or1 (pt_cmpR (o_neD K rfl hu64) (pe_call C_good.G (hr.mono (by decide)) rfl C_good.m C_good.kp C_good.b .nil pass0 (pa_cons (pe_op op_cat (pv 4) (pv 6)) (pa_cons pe_int pa_nil))) (pe_lst (pa_cons pe_bl (pa_cons pe_bl pa_nil))) (nomark _)))))
      (pss_one (ps_ret pe_bl))
      pss_nil)))))))))))
    (pss_one (ps_ret pe_bl))), ?_⟩
  obtain ⟨sc, ns, rfl, hS, hl, q⟩ := h
  walk_at "r"
  refine ⟨_, rfl, by split <;> omega, by split <;> omega, ?_⟩
  refine forR (fun i σ H' => ∃ v1 v2 v3 v4 v5 v6, σ = [some (.ref sc), v1, v2, v3, v4, v5, v6] ∧ Same H H') ⟨_, _, _, _, _, _, rfl, Same.refl H⟩ ?_ ?_
  · rintro i σ H1 hi ⟨v1, v2, v3, v4, v5, v6, rfl, e1⟩
    walk_at "r"
    refine ⟨rfl, sc, ns, _, rfl, e1.seq hS, by omega, ?_, fun p H2 s2 => ?_⟩
    · have : i < 3 := Nat.lt_of_lt_of_le hi (by split <;> omega)
      omega
    walk_at "r"
    refine ⟨_, rfl, by decide, by decide, ?_⟩
    refine lcW walk_range (S1 p) s2.1 (fun b e => e ▸ s2.dom) (fun _ _ _ => trivial) (fun i acc F H => Src F H p ∧ ∃ bs : List Int, acc = bs.map V.int ∧ bs.length = i ∧ Bits bs)
      (fun _ _ _ _ _ _ n f _ r => ⟨r.1.upd n f, r.2⟩) ⟨s2, [], rfl, rfl, fun _ h => absurd h (by simp)⟩ ?_ ?_
    · rintro j x acc d F3 H3 H4 hj ⟨rfl, rfl⟩ hd nS st f0 e hl ⟨rs, bs, rl, rn, rb⟩
      walk_at "r"
      refine ⟨rfl, F3, p, _, rfl, rs, by decide, by decide, fun r H5 s5 t5 r50 r51 => lc_end hd nS st f0 e hl (by omega) t5 ⟨s5.upd nS f0, bs ++ [r], ?_, by simp [rn], ?_⟩⟩
      · rw [rl]; simp
      · intro x hx
        rcases List.mem_append.mp hx with hx | hx
        · exact rb x hx
        · simp at hx; unfold isBit; omega
    intro d acc F3 F4 H3 st hd f0 ef st1 hl ⟨rs, bs, rl, rn, rb⟩
    subst ef
    change bs.length = 48 at rn
    have s3 := rs.frz (s2.ne hd) st1.fh
    have hld : H3 d = some (.lst (bs.map V.int)) := by rw [← rl]; exact st1.fh _ _ upd_same
    walk_at "r"
    refine ⟨rfl, d, bs, rfl, SqL.of hld, rb, fun c H4 e4 hc0 hc => ?_⟩
    refine ⟨_, _, _, _, rfl, rfl, e4 _ _ hld, hc, sz (by simp [rn, fixL_len]), fun g hg => ?_⟩
    have hcell : (upd H4 g (.lst (bs.map V.int ++ (fixL 8 (chk bs)).map V.int))) g = some (.lst ((bs ++ fixL 8 (chk bs)).map V.int)) := by rw [upd_same, List.map_append]
    have s5 := (s3.of e4).new (o := .lst (bs.map V.int ++ (fixL 8 (chk bs)).map V.int)) hg
    generalize hF5 : upd (upd F3 d (.lst acc)) g (.lst (bs.map V.int ++ (fixL 8 (chk bs)).map V.int)) = F5 at s5
    have hc5 : F5 g = some (.lst ((bs ++ fixL 8 (chk bs)).map V.int)) := by rw [← hF5, upd_same, List.map_append]
    have e5 : Same H1 F5 := by
      rw [← hF5]
      refine (st1.ff).trans (Stp.new (S := S0) ?_ hg).ff
      exact st1.fh.trans e4
    generalize upd H4 g (.lst (bs.map V.int ++ (fixL 8 (chk bs)).map V.int)) = H5 at s5 hcell
    clear hF5
    have hl8 : (bs ++ fixL 8 (chk bs)).length = 56 := by simp [rn, fixL_len]
    have cb : Bits (bs ++ fixL 8 (chk bs)) := fun x hx => by
      rcases List.mem_append.mp hx with hx | hx
      · exact rb x hx
      · exact fixL_bit _ _ x hx
    have gc : goodL (bs ++ fixL 8 (chk bs)) = true := by
      refine decide_eq_true ?_
      rw [List.drop_left' rn, List.take_left' rn]
    walk_at "r"
    refine ifn (fun _ => ?_) (fun h => absurd (by simp [rn, fixL_len]) h)
    walk_at "r"
    refine ⟨_, _, _, _, rfl, rfl, hcell, hcell, sz (by simp [rn, fixL_len]), fun b1 hb1 => ?_⟩
    have s6 := s5.new (o := .lst ((bs ++ fixL 8 (chk bs)).map V.int ++ (bs ++ fixL 8 (chk bs)).map V.int)) hb1
    refine ⟨rfl, b1, _, 1, 2, rfl, SqL.of (by rw [upd_same, ← List.map_append]), cb.app cb, by simp [rn, fixL_len], by decide, by decide, by decide, by decide, by decide, fun r6 H6 e6 _ h6 => ?_⟩
    rw [good2 hl8 hl8, gc] at h6
    walk_at "r"
    refine ⟨sz (by simp), fun b2 hb2 => ?_⟩
    have s7 := (s6.of e6).new (o := .lst [.bl true, .bl true]) hb2
    refine s_neB (ns := [true, true]) (ms := [true, true]) (SqL.of ((Stp.new (S := S0) (Same.refl H6) hb2).same _ _ h6)) (SqL.of upd_same) ?_
    walk_at "r"
    refine ifn (fun _ => ?_) (fun h => absurd rfl h)
    have s8 : Src F5 (upd H6 b2 (.lst [.bl true, .bl true])) p := (s7.weak (Stp.new (S := S0) (s6.of e6).1 hb2).ff).weak (Stp.new (S := S0) s5.1 hb1).ff
    walk_at "r"
    refine ⟨_, rfl, by decide, by decide, ?_⟩
    refine forR (fun i' σ H' => ∃ w5 w6, σ = [some (.ref sc), some (.int (0 + (i : Int))), some (.ref p), some (.ref d), some (.ref g), w5, w6] ∧ Src F5 H' p) ⟨_, _, rfl, s8⟩ ?_ ?_
    · rintro i' σ H7 hi' ⟨w5, w6, rfl, r7⟩
      walk_at "r"
      refine ⟨rfl, F5, p, rfl, r7, fun lq L F8 H8 r8 t8 hlq ok => ?_⟩
      walk_at "r"
      have g8 : F8 g = some (.lst ((bs ++ fixL 8 (chk bs)).map V.int)) := t8.ff _ _ hc5
      refine ⟨rfl, g, lq, _, L, rfl, SqL.of (r8.1 _ _ g8), hl8, SqL.of (r8.1 _ _ hlq), fun o H9 e9 _ ho => ?_⟩
      walk_at "r"
      have r9 := r8.of e9
      have hg9 : H9 g = some (.lst ((bs ++ fixL 8 (chk bs)).map V.int)) := r9.1 _ _ g8
      refine s_eqL (SqL.of ho) (SqL.of hg9) ?_
      walk_at "r"
      refine ifd (fun h => absurd h (flip_ne ok hl8)) (fun _ => ?_)
      have fb : Bits (flipL (ind L) 0 (bs ++ fixL 8 (chk bs))) := flip_bits _ _ _ cb
      have fl : (flipL (ind L) 0 (bs ++ fixL 8 (chk bs))).length = 56 := by rw [flipL_len]; exact hl8
      have gf : goodL (flipL (ind L) 0 (bs ++ fixL 8 (chk bs))) = false := decide_eq_false (turned_bad rn rb ok.synd)
      generalize flipL (ind L) 0 (bs ++ fixL 8 (chk bs)) = fc at ho fb fl gf
      walk_at "r"
      refine ⟨_, _, _, _, rfl, rfl, ho, hg9, sz (by simp [fl, rn, fixL_len]), fun b1 hb1 => ?_⟩
      have s10 := r9.new (o := .lst (fc.map V.int ++ (bs ++ fixL 8 (chk bs)).map V.int)) hb1
      refine ⟨rfl, b1, _, 1, 2, rfl, SqL.of (by rw [upd_same, ← List.map_append]), fb.app cb, by simp [fl, rn, fixL_len], by decide, by decide, by decide, by decide, by decide, fun r11 H11 e11 _ h11 => ?_⟩
      rw [good2 fl hl8, gc, gf] at h11
      walk_at "r"
      refine ⟨sz (by simp), fun b2 hb2 => ?_⟩
      have s12 := (s10.of e11).new (o := .lst [.bl false, .bl true]) hb2
      refine s_neB (ns := [false, true]) (ms := [false, true]) (SqL.of ((Stp.new (S := S0) (Same.refl H11) hb2).same _ _ h11)) (SqL.of upd_same) ?_
      walk_at "r"
      refine ifn (fun _ => ?_) (fun h => absurd rfl h)
      have e12 := ((Stp.new (S := S0) (o := .lst (fc.map V.int ++ (bs ++ fixL 8 (chk bs)).map V.int)) (Same.refl H9) hb1).same.trans e11).trans (Stp.new (S := S0) (o := .lst [.bl false, .bl true]) (Same.refl H11) hb2).same
      walk_at "r"
      refine ⟨_, _, _, _, rfl, rfl, e12 _ _ hg9, e12 _ _ ho, sz (by simp [fl, rn, fixL_len]), fun b3 hb3 => ?_⟩
      have s13 := s12.new (o := .lst ((bs ++ fixL 8 (chk bs)).map V.int ++ fc.map V.int)) hb3
      refine ⟨rfl, b3, _, 1, 2, rfl, SqL.of (by rw [upd_same, ← List.map_append]), cb.app fb, by simp [fl, rn, fixL_len], by decide, by decide, by decide, by decide, by decide, fun r14 H14 e14 _ h14 => ?_⟩
      rw [good2 hl8 fl, gc, gf] at h14
      walk_at "r"
      refine ⟨sz (by simp), fun b4 hb4 => ?_⟩
      have s15 := (s13.of e14).new (o := .lst [.bl true, .bl false]) hb4
      refine s_neB (ns := [true, false]) (ms := [true, false]) (SqL.of ((Stp.new (S := S0) (Same.refl H14) hb4).same _ _ h14)) (SqL.of upd_same) ?_
      walk_at "r"
      refine ifn (fun _ => ?_) (fun h => absurd rfl h)
      refine ⟨_, _, rfl, ?_⟩
      have z := s15.weak (Stp.new (S := S0) (s13.of e14).1 hb4).ff
      have z := z.weak (Stp.new (S := S0) s12.1 hb3).ff
      have z := z.weak (Stp.new (S := S0) (s10.of e11).1 hb2).ff
      have z := z.weak (Stp.new (S := S0) r9.1 hb1).ff
      exact z.weak t8.ff
    · rintro σ H7 ⟨w5, w6, rfl, r7⟩
      exact ⟨_, _, _, _, _, _, rfl, e1.trans (e5.trans r7.1)⟩
  · rintro σ H1 ⟨v1, v2, v3, v4, v5, v6, rfl, e1⟩
    walk_at "r"
    exact q _
end
theorem all_mk {l : PySem.W.OpenLaw} {w : World} {K : PySem.W.Frag} {h : Heap} {mg : Str → Option Value} {fa : Addr} (X : K.In h) (G : h.Ns mainGlobals mg) (hfa : mg "law" = some (.ref fa))
    {f0 : Addr} {od0 an0 : Option Addr} {sl0 : Array (Option Value)} {oc0 kV0 dc0 pm0 cd0 ct0 : Value}
    (a0 : PySem.W.nsIn K mainGlobals "is_bit" = some (some (.ref f0))) (l0 : K.lookup f0 = some ⟨oc0, od0, .func (PySem.W.fnOf "is_bit" "is_bit" (defArgs s_is_bit) (defBody s_is_bit) (defScope s_is_bit) .none kV0 dc0 pm0 an0 cd0 ct0), sl0⟩) (c0 : PySem.W.codeIn K cd0 "is_bit" = true) (k0 : PySem.W.keepIn K (.ref f0) = true)
    {f1 : Addr} {od1 an1 : Option Addr} {sl1 : Array (Option Value)} {oc1 kV1 dc1 pm1 cd1 ct1 : Value}
    (a1 : PySem.W.nsIn K mainGlobals "check_bits" = some (some (.ref f1))) (l1 : K.lookup f1 = some ⟨oc1, od1, .func (PySem.W.fnOf "check_bits" "check_bits" (defArgs s_check_bits) (defBody s_check_bits) (defScope s_check_bits) .none kV1 dc1 pm1 an1 cd1 ct1), sl1⟩) (c1 : PySem.W.codeIn K cd1 "check_bits" = true) (k1 : PySem.W.keepIn K (.ref f1) = true)
    {f2 : Addr} {od2 an2 : Option Addr} {sl2 : Array (Option Value)} {oc2 kV2 dc2 pm2 cd2 ct2 : Value}
    (a2 : PySem.W.nsIn K mainGlobals "fixed" = some (some (.ref f2))) (l2 : K.lookup f2 = some ⟨oc2, od2, .func (PySem.W.fnOf "fixed" "fixed" (defArgs s_fixed) (defBody s_fixed) (defScope s_fixed) .none kV2 dc2 pm2 an2 cd2 ct2), sl2⟩) (c2 : PySem.W.codeIn K cd2 "fixed" = true) (k2 : PySem.W.keepIn K (.ref f2) = true)
    {f3 : Addr} {od3 an3 : Option Addr} {sl3 : Array (Option Value)} {oc3 kV3 dc3 pm3 cd3 ct3 : Value}
    (a3 : PySem.W.nsIn K mainGlobals "check_of" = some (some (.ref f3))) (l3 : K.lookup f3 = some ⟨oc3, od3, .func (PySem.W.fnOf "check_of" "check_of" (defArgs s_check_of) (defBody s_check_of) (defScope s_check_of) .none kV3 dc3 pm3 an3 cd3 ct3), sl3⟩) (c3 : PySem.W.codeIn K cd3 "check_of" = true) (k3 : PySem.W.keepIn K (.ref f3) = true)
    {f4 : Addr} {od4 an4 : Option Addr} {sl4 : Array (Option Value)} {oc4 kV4 dc4 pm4 cd4 ct4 : Value}
    (a4 : PySem.W.nsIn K mainGlobals "check" = some (some (.ref f4))) (l4 : K.lookup f4 = some ⟨oc4, od4, .func (PySem.W.fnOf "check" "check" (defArgs s_check) (defBody s_check) (defScope s_check) .none kV4 dc4 pm4 an4 cd4 ct4), sl4⟩) (c4 : PySem.W.codeIn K cd4 "check" = true) (k4 : PySem.W.keepIn K (.ref f4) = true)
    {f5 : Addr} {od5 an5 : Option Addr} {sl5 : Array (Option Value)} {oc5 kV5 dc5 pm5 cd5 ct5 : Value}
    (a5 : PySem.W.nsIn K mainGlobals "want_group" = some (some (.ref f5))) (l5 : K.lookup f5 = some ⟨oc5, od5, .func (PySem.W.fnOf "want_group" "want_group" (defArgs s_want_group) (defBody s_want_group) (defScope s_want_group) .none kV5 dc5 pm5 an5 cd5 ct5), sl5⟩) (c5 : PySem.W.codeIn K cd5 "want_group" = true) (k5 : PySem.W.keepIn K (.ref f5) = true)
    {f6 : Addr} {od6 an6 : Option Addr} {sl6 : Array (Option Value)} {oc6 kV6 dc6 pm6 cd6 ct6 : Value}
    (a6 : PySem.W.nsIn K mainGlobals "cut_up" = some (some (.ref f6))) (l6 : K.lookup f6 = some ⟨oc6, od6, .func (PySem.W.fnOf "cut_up" "cut_up" (defArgs s_cut_up) (defBody s_cut_up) (defScope s_cut_up) .none kV6 dc6 pm6 an6 cd6 ct6), sl6⟩) (c6 : PySem.W.codeIn K cd6 "cut_up" = true) (k6 : PySem.W.keepIn K (.ref f6) = true)
    {f7 : Addr} {od7 an7 : Option Addr} {sl7 : Array (Option Value)} {oc7 kV7 dc7 pm7 cd7 ct7 : Value}
    (a7 : PySem.W.nsIn K mainGlobals "is_good" = some (some (.ref f7))) (l7 : K.lookup f7 = some ⟨oc7, od7, .func (PySem.W.fnOf "is_good" "is_good" (defArgs s_is_good) (defBody s_is_good) (defScope s_is_good) .none kV7 dc7 pm7 an7 cd7 ct7), sl7⟩) (c7 : PySem.W.codeIn K cd7 "is_good" = true) (k7 : PySem.W.keepIn K (.ref f7) = true)
    {f8 : Addr} {od8 an8 : Option Addr} {sl8 : Array (Option Value)} {oc8 kV8 dc8 pm8 cd8 ct8 : Value}
    (a8 : PySem.W.nsIn K mainGlobals "cells_of" = some (some (.ref f8))) (l8 : K.lookup f8 = some ⟨oc8, od8, .func (PySem.W.fnOf "cells_of" "cells_of" (defArgs s_cells_of) (defBody s_cells_of) (defScope s_cells_of) .none kV8 dc8 pm8 an8 cd8 ct8), sl8⟩) (c8 : PySem.W.codeIn K cd8 "cells_of" = true) (k8 : PySem.W.keepIn K (.ref f8) = true)
    {f9 : Addr} {od9 an9 : Option Addr} {sl9 : Array (Option Value)} {oc9 kV9 dc9 pm9 cd9 ct9 : Value}
    (a9 : PySem.W.nsIn K mainGlobals "good" = some (some (.ref f9))) (l9 : K.lookup f9 = some ⟨oc9, od9, .func (PySem.W.fnOf "good" "good" (defArgs s_good) (defBody s_good) (defScope s_good) .none kV9 dc9 pm9 an9 cd9 ct9), sl9⟩) (c9 : PySem.W.codeIn K cd9 "good" = true) (k9 : PySem.W.keepIn K (.ref f9) = true)
    {f10 : Addr} {od10 an10 : Option Addr} {sl10 : Array (Option Value)} {oc10 kV10 dc10 pm10 cd10 ct10 : Value}
    (a10 : PySem.W.nsIn K mainGlobals "_law_well" = some (some (.ref f10))) (l10 : K.lookup f10 = some ⟨oc10, od10, .func (PySem.W.fnOf "_law_well" "_law_well" (defArgs s_law_well) (defBody s_law_well) (defScope s_law_well) .none kV10 dc10 pm10 an10 cd10 ct10), sl10⟩) (c10 : PySem.W.codeIn K cd10 "_law_well" = true) (k10 : PySem.W.keepIn K (.ref f10) = true)
    {f11 : Addr} {od11 an11 : Option Addr} {sl11 : Array (Option Value)} {oc11 kV11 dc11 pm11 cd11 ct11 : Value}
    (a11 : PySem.W.nsIn K mainGlobals "_law_drop" = some (some (.ref f11))) (l11 : K.lookup f11 = some ⟨oc11, od11, .func (PySem.W.fnOf "_law_drop" "_law_drop" (defArgs s_law_drop) (defBody s_law_drop) (defScope s_law_drop) .none kV11 dc11 pm11 an11 cd11 ct11), sl11⟩) (c11 : PySem.W.codeIn K cd11 "_law_drop" = true) (k11 : PySem.W.keepIn K (.ref f11) = true)
    {f12 : Addr} {od12 an12 : Option Addr} {sl12 : Array (Option Value)} {oc12 kV12 dc12 pm12 cd12 ct12 : Value}
    (a12 : PySem.W.nsIn K mainGlobals "_law_spots" = some (some (.ref f12))) (l12 : K.lookup f12 = some ⟨oc12, od12, .func (PySem.W.fnOf "_law_spots" "_law_spots" (defArgs s_law_spots) (defBody s_law_spots) (defScope s_law_spots) .none kV12 dc12 pm12 an12 cd12 ct12), sl12⟩) (c12 : PySem.W.codeIn K cd12 "_law_spots" = true) (k12 : PySem.W.keepIn K (.ref f12) = true)
    {f13 : Addr} {od13 an13 : Option Addr} {sl13 : Array (Option Value)} {oc13 kV13 dc13 pm13 cd13 ct13 : Value}
    (a13 : PySem.W.nsIn K mainGlobals "_law_turned" = some (some (.ref f13))) (l13 : K.lookup f13 = some ⟨oc13, od13, .func (PySem.W.fnOf "_law_turned" "_law_turned" (defArgs s_law_turned) (defBody s_law_turned) (defScope s_law_turned) .none kV13 dc13 pm13 an13 cd13 ct13), sl13⟩) (c13 : PySem.W.codeIn K cd13 "_law_turned" = true) (k13 : PySem.W.keepIn K (.ref f13) = true)
    {f14 : Addr} {od14 an14 : Option Addr} {sl14 : Array (Option Value)} {oc14 kV14 dc14 pm14 cd14 ct14 : Value}
    (a14 : PySem.W.nsIn K mainGlobals "law" = some (some (.ref f14))) (l14 : K.lookup f14 = some ⟨oc14, od14, .func (PySem.W.fnOf "law" "law" (defArgs s_law) (defBody s_law) (defScope s_law) .none kV14 dc14 pm14 an14 cd14 ct14), sl14⟩) (c14 : PySem.W.codeIn K cd14 "law" = true) (k14 : PySem.W.keepIn K (.ref f14) = true)
    (z_bool : PySem.W.nsIn K mainGlobals "bool" = some none)
    (z_divmod : PySem.W.nsIn K mainGlobals "divmod" = some none)
    (z_int : PySem.W.nsIn K mainGlobals "int" = some none)
    (z_isinstance : PySem.W.nsIn K mainGlobals "isinstance" = some none)
    (z_len : PySem.W.nsIn K mainGlobals "len" = some none)
    (z_max : PySem.W.nsIn K mainGlobals "max" = some none)
    (z_min : PySem.W.nsIn K mainGlobals "min" = some none)
    (z_range : PySem.W.nsIn K mainGlobals "range" = some none)
    {t_CELL_SIZE : Tok} (e_CELL_SIZE : PySem.W.nsIn K mainGlobals "CELL_SIZE" = some (some (.int (56) t_CELL_SIZE)))
    {t_CHECK_SIZE : Tok} (e_CHECK_SIZE : PySem.W.nsIn K mainGlobals "CHECK_SIZE" = some (some (.int (8) t_CHECK_SIZE)))
    {t_HIGHEST : Tok} (e_HIGHEST : PySem.W.nsIn K mainGlobals "HIGHEST" = some (some (.int (128) t_HIGHEST)))
    {t_LOAD_SIZE : Tok} (e_LOAD_SIZE : PySem.W.nsIn K mainGlobals "LOAD_SIZE" = some (some (.int (48) t_LOAD_SIZE)))
    {t_MOST_GROUP : Tok} (e_MOST_GROUP : PySem.W.nsIn K mainGlobals "MOST_GROUP" = some (some (.int (8) t_MOST_GROUP)))
    {t_STATES : Tok} (e_STATES : PySem.W.nsIn K mainGlobals "STATES" = some (some (.int (256) t_STATES)))
    {t_TURN : Tok} (e_TURN : PySem.W.nsIn K mainGlobals "TURN" = some (some (.int (7) t_TURN)))
    : ∃ fd : FuncData, (∀ (s : Shared) (v : Value), BindsTo s fd ⟨[v], []⟩ [("_law_script", v)]) ∧ ∀ base : Heap, K.In base → base.Ns mainGlobals mg → FnOk l.prog w K mg base CX0 5 fa fd ["_law_script"] (sp_law K) := by
  have e := hfa.symm.trans (PySem.W.mg_of X G a14)
  cases e
  have Z : Zs mg := ⟨PySem.W.mg_none_of X G z_bool, PySem.W.mg_none_of X G z_divmod, PySem.W.mg_none_of X G z_int, PySem.W.mg_none_of X G z_isinstance, PySem.W.mg_none_of X G z_len, PySem.W.mg_none_of X G z_max, PySem.W.mg_none_of X G z_min, PySem.W.mg_none_of X G z_range, ⟨_, PySem.W.mg_of X G e_CELL_SIZE⟩, ⟨_, PySem.W.mg_of X G e_CHECK_SIZE⟩, ⟨_, PySem.W.mg_of X G e_HIGHEST⟩, ⟨_, PySem.W.mg_of X G e_LOAD_SIZE⟩, ⟨_, PySem.W.mg_of X G e_MOST_GROUP⟩, ⟨_, PySem.W.mg_of X G e_STATES⟩, ⟨_, PySem.W.mg_of X G e_TURN⟩⟩
  have F0 := fun_mk (st := s_is_bit) l0 c0 k0
  have F1 := fun_mk (st := s_check_bits) l1 c1 k1
  have F2 := fun_mk (st := s_fixed) l2 c2 k2
  have F3 := fun_mk (st := s_check_of) l3 c3 k3
  have F4 := fun_mk (st := s_check) l4 c4 k4
  have F5 := fun_mk (st := s_want_group) l5 c5 k5
  have F6 := fun_mk (st := s_cut_up) l6 c6 k6
  have F7 := fun_mk (st := s_is_good) l7 c7 k7
  have F8 := fun_mk (st := s_cells_of) l8 c8 k8
  have F9 := fun_mk (st := s_good) l9 c9 k9
  have F10 := fun_mk (st := s_law_well) l10 c10 k10
  have F11 := fun_mk (st := s_law_drop) l11 c11 k11
  have F12 := fun_mk (st := s_law_spots) l12 c12 k12
  have F13 := fun_mk (st := s_law_turned) l13 c13 k13
  have F14 := fun_mk (st := s_law) l14 c14 k14
  refine ⟨PySem.W.fnOf "law" "law" (defArgs s_law) (defBody s_law) (defScope s_law) .none kV14 dc14 pm14 an14 cd14 ct14, fun s v => .of_eq rfl, fun base _ _ => ?_⟩
  have R_cut_up : Ok_cut_up l.prog w K mg base := ⟨_, _, okx_cut_up Z F6 (PySem.W.mg_of X G a6) ⟩
  have R_want_group : Ok_want_group l.prog w K mg base := ⟨_, _, okx_want_group Z F5 (PySem.W.mg_of X G a5) ⟩
  have R_is_bit : Ok_is_bit l.prog w K mg base := ⟨_, _, okx_is_bit Z F0 (PySem.W.mg_of X G a0) ⟩
  have R_check_bits : Ok_check_bits l.prog w K mg base := ⟨_, _, okx_check_bits Z F1 (PySem.W.mg_of X G a1) R_is_bit⟩
  have R_cells_of : Ok_cells_of l.prog w K mg base := ⟨_, _, okx_cells_of Z F8 (PySem.W.mg_of X G a8) R_cut_up R_want_group R_check_bits⟩
  have R_fixed : Ok_fixed l.prog w K mg base := ⟨_, _, okx_fixed Z F2 (PySem.W.mg_of X G a2) ⟩
  have R_check_of : Ok_check_of l.prog w K mg base := ⟨_, _, okx_check_of Z F3 (PySem.W.mg_of X G a3) R_fixed⟩
  have R_is_good : Ok_is_good l.prog w K mg base := ⟨_, _, okx_is_good Z F7 (PySem.W.mg_of X G a7) R_check_of⟩
  have R_good : Ok_good l.prog w K mg base := ⟨_, _, okx_good Z F9 (PySem.W.mg_of X G a9) R_cells_of R_is_good⟩
  have R_law_turned : Ok_law_turned l.prog w K mg base := ⟨_, _, okx_law_turned Z F13 (PySem.W.mg_of X G a13) ⟩
  have R_law_drop : Ok_law_drop l.prog w K mg base := ⟨_, _, okx_law_drop Z F11 (PySem.W.mg_of X G a11) ⟩
  have R_law_spots : Ok_law_spots l.prog w K mg base := ⟨_, _, okx_law_spots Z F12 (PySem.W.mg_of X G a12) R_law_drop⟩
  have R_check : Ok_check l.prog w K mg base := ⟨_, _, okx_check Z F4 (PySem.W.mg_of X G a4) R_check_of R_check_bits⟩
  have R_law_well : Ok_law_well l.prog w K mg base := ⟨_, _, okx_law_well Z F10 (PySem.W.mg_of X G a10) ⟩
  exact (okx_law (P := l.prog) (w := w) (base := base) Z F14 (PySem.W.mg_of X G a14) R_good R_law_turned R_law_spots R_check R_law_drop R_law_well).G
theorem walk {l : PySem.W.OpenLaw} {q : Program} {loose : List Str} {XP : (Str → Option Value) → Heap → Prop} {YP : World → Heap → Prop} {d : DefRec} {K : Params → PySem.W.Frag} (hn : l.most = some 63) (hdf : d.params.defaults = [])
    (hY : ∀ (w : World) (h : Heap), YP w h → (K w.params).In h)
    (F : ∀ (w : World) (mg : Str → Option Value) (fa : Addr) (h : Heap), (K w.params).In h → h.Ns mainGlobals mg → mg d.name = some (.ref fa) →
      ∃ fd : FuncData, (∀ (s : Shared) (u : Value), BindsTo s fd ⟨[u], []⟩ [("_law_script", u)]) ∧ ∀ base : Heap, (K w.params).In base → base.Ns mainGlobals mg → FnOk l.prog w (K w.params) mg base CX0 5 fa fd ["_law_script"] (sp_law (K w.params))) :
    PySem.W.WalkO q loose XP YP l.row.toRowW d [] (fun f vs => PySem.call f vs) :=
  L2.walk_of (n := 63) (k := 5) (x := "_law_script") (CX := fun _ => CX0) (sp := fun w => sp_law (K w.params)) hn (by decide) hdf ⟨rfl, by decide, by decide⟩ hY F (fun _ _ _ ns hl _ hS => law_start hl hS) fun _ _ _ _ _ z => z
end NB
open PySem PySem.W PyProof.Rows in
set_option maxRecDepth 100000 in
set_option maxHeartbeats 0 in
theorem PySem.Challenge.cw_narrowingbits_k59_damage_that_is_told_holds : PySem.Challenge.rw_narrowingbits_k59_damage_that_is_told.Holds := by
  w_on; o_law; k_head; (case hw => w_witness2)
  k_fill
  refine NB.walk (l := PySem.Challenge.rw_narrowingbits_k59_damage_that_is_told) rfl rfl (fun w h Y => PySem.W.kIn_of Y) ?F
  case F =>
    intro w mg fa h KX G hmg
    refine' NB.all_mk KX G hmg ?a0 ?l0 ?c0 ?k0 ?a1 ?l1 ?c1 ?k1 ?a2 ?l2 ?c2 ?k2 ?a3 ?l3 ?c3 ?k3 ?a4 ?l4 ?c4 ?k4 ?a5 ?l5 ?c5 ?k5 ?a6 ?l6 ?c6 ?k6 ?a7 ?l7 ?c7 ?k7 ?a8 ?l8 ?c8 ?k8 ?a9 ?l9 ?c9 ?k9 ?a10 ?l10 ?c10 ?k10 ?a11 ?l11 ?c11 ?k11 ?a12 ?l12 ?c12 ?k12 ?a13 ?l13 ?c13 ?k13 ?a14 ?l14 ?c14 ?k14 ?z_bool ?z_divmod ?z_int ?z_isinstance ?z_len ?z_max ?z_min ?z_range ?e_CELL_SIZE ?e_CHECK_SIZE ?e_HIGHEST ?e_LOAD_SIZE ?e_MOST_GROUP ?e_STATES ?e_TURN
    (case a0 => k_is)
    (case l0 => k_is)
    (case c0 => k_is)
    (case k0 => k_is)
    (case a1 => k_is)
    (case l1 => k_is)
    (case c1 => k_is)
    (case k1 => k_is)
    (case a2 => k_is)
    (case l2 => k_is)
    (case c2 => k_is)
    (case k2 => k_is)
    (case a3 => k_is)
    (case l3 => k_is)
    (case c3 => k_is)
    (case k3 => k_is)
    (case a4 => k_is)
    (case l4 => k_is)
    (case c4 => k_is)
    (case k4 => k_is)
    (case a5 => k_is)
    (case l5 => k_is)
    (case c5 => k_is)
    (case k5 => k_is)
    (case a6 => k_is)
    (case l6 => k_is)
    (case c6 => k_is)
    (case k6 => k_is)
    (case a7 => k_is)
    (case l7 => k_is)
    (case c7 => k_is)
    (case k7 => k_is)
    (case a8 => k_is)
    (case l8 => k_is)
    (case c8 => k_is)
    (case k8 => k_is)
    (case a9 => k_is)
    (case l9 => k_is)
    (case c9 => k_is)
    (case k9 => k_is)
    (case a10 => k_is)
    (case l10 => k_is)
    (case c10 => k_is)
    (case k10 => k_is)
    (case a11 => k_is)
    (case l11 => k_is)
    (case c11 => k_is)
    (case k11 => k_is)
    (case a12 => k_is)
    (case l12 => k_is)
    (case c12 => k_is)
    (case k12 => k_is)
    (case a13 => k_is)
    (case l13 => k_is)
    (case c13 => k_is)
    (case k13 => k_is)
    (case a14 => k_is)
    (case l14 => k_is)
    (case c14 => k_is)
    (case k14 => k_is)
    (case z_bool => k_is)
    (case z_divmod => k_is)
    (case z_int => k_is)
    (case z_isinstance => k_is)
    (case z_len => k_is)
    (case z_max => k_is)
    (case z_min => k_is)
    (case z_range => k_is)
    (case e_CELL_SIZE => k_is)
    (case e_CHECK_SIZE => k_is)
    (case e_HIGHEST => k_is)
    (case e_LOAD_SIZE => k_is)
    (case e_MOST_GROUP => k_is)
    (case e_STATES => k_is)
    (case e_TURN => k_is)
#print axioms PySem.Challenge.cw_narrowingbits_k59_damage_that_is_told_holds
