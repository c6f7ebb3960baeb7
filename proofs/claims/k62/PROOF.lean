import PyProof.Rows.All
import Wide.All
import OpenK.AllK
import Wide.FinOn
import HandS.ForMost
import HandS.ForExc
import HandS.ExcIs
import HandS.IsInst
import HandS.EndTab
import HandS.TupLe
import HandS.Style
import HandS.FStr
import HandS.StrMore
import HandS.WideBits
import HandS.Walk
import PyProof.Rows.StrIntSpec
import PyProof.FString3
import PyProof.Rows.FStr
import PySem.Challenge.RW_narrowingbits_k62_cells_refused
set_option Elab.async false
set_option maxRecDepth 100000
set_option maxHeartbeats 4000000
namespace NB
open PySem L2
/-! ### the frozen part, the steps -/
/-- from (F, H) to (F', H'): F is what stands still, H the whole; S: the cells that may be written -/
structure Stp (S : Addr → Prop) (F H F' H' : Hp) : Prop where
  ff : Same F F'
  fh : Same F' H'
  fo : ∀ b o, H b = some o → F' b = F b
  keep : ∀ b o, ¬ S b → H b = some o → H' b = some o
  dom : ∀ b o, H b = some o → ∃ o', H' b = some o'
abbrev S0 : Addr → Prop := fun _ => False
abbrev S1 (p : Addr) : Addr → Prop := fun b => b = p
section
variable {S S' : Addr → Prop} {F H F1 H1 F2 H2 : Hp} {p : Addr} {o o' : HO}
theorem Stp.rfl' (h : Same F H) : Stp S F H F H := ⟨Same.refl F, h, fun _ _ _ => rfl, fun _ _ _ e => e, fun _ o e => ⟨o, e⟩⟩
theorem Stp.trans (a : Stp S F H F1 H1) (b : Stp S F1 H1 F2 H2) : Stp S F H F2 H2 :=
  ⟨a.ff.trans b.ff, b.fh, fun c o e => by
    obtain ⟨o', e'⟩ := a.dom c o e
    rw [b.fo c o' e', a.fo c o e], fun c o n e => b.keep c o n (a.keep c o n e), fun c o e => by
    obtain ⟨o', e'⟩ := a.dom c o e
    exact b.dom c o' e'⟩
theorem Stp.sub (i : ∀ b, S b → S' b) (a : Stp S F H F1 H1) : Stp S' F H F1 H1 := ⟨a.ff, a.fh, a.fo, fun b o n e => a.keep b o (fun z => n (i b z)) e, a.dom⟩
theorem Stp.up (a : Stp S0 F H F1 H1) : Stp S F H F1 H1 := a.sub fun _ z => z.elim
theorem Stp.same (a : Stp S0 F H F1 H1) : Same H H1 := fun b o e => a.keep b o (fun z => z) e
/-- a new thing that will never change -/
theorem Stp.new (h : Same F H) (hp : H p = none) : Stp S F H (upd F p o) (upd H p o) := by
  have fp : F p = none := h.free hp
  refine ⟨fun b u e => ?_, fun b u e => ?_, fun b u e => ?_, fun b u _ e => ?_, fun b u e => ⟨u, ?_⟩⟩
  · rw [upd_ne (ne_of_none e fp)]; exact e
  · by_cases q : b = p
    · subst q; rw [upd_same] at e ⊢; exact e
    · rw [upd_ne q] at e ⊢; exact h b u e
  · rw [upd_ne (ne_of_none e hp)]
  · rw [upd_ne (ne_of_none e hp)]; exact e
  · rw [upd_ne (ne_of_none e hp)]; exact e
/-- a new cell -/
theorem Stp.cell (h : Same F H) (hp : H p = none) : Stp S F H F (upd H p o) :=
  ⟨Same.refl F, fun b u e => by rw [upd_ne (ne_of_none (h b u e) hp)]; exact h b u e, fun _ _ _ => rfl, fun b u _ e => by rw [upd_ne (ne_of_none e hp)]; exact e, fun b u e => ⟨u, by rw [upd_ne (ne_of_none e hp)]; exact e⟩⟩
/-- a cell written -/
theorem Stp.wr (h : Same F H) (hs : S p) (fp : F p = none) : Stp S F H F (upd H p o) :=
  ⟨Same.refl F, fun b u e => by
    have n : b ≠ p := fun q => by rw [q, fp] at e; cases e
    rw [upd_ne n]; exact h b u e, fun _ _ _ => rfl, fun b u n e => by
    have q : b ≠ p := fun z => n (z ▸ hs)
    rw [upd_ne q]; exact e, fun b u e => by
    by_cases q : b = p
    · exact ⟨o, by rw [q, upd_same]⟩
    · exact ⟨u, by rw [upd_ne q]; exact e⟩⟩
/-- a cell that was made here is written -/
theorem Stp.wrNew (a : Stp S F H F1 H1) (hn : H p = none) (fp : F1 p = none) : Stp S F H F1 (upd H1 p o) :=
  ⟨a.ff, fun b u e => by
    have n : b ≠ p := fun q => by rw [q, fp] at e; cases e
    rw [upd_ne n]; exact a.fh b u e, a.fo, fun b u n e => by
    rw [upd_ne (ne_of_none e hn)]; exact a.keep b u n e, fun b u e => by
    rw [upd_ne (ne_of_none e hn)]; exact a.dom b u e⟩
/-- a cell that was made here stands still from now on -/
theorem Stp.freeze (a : Stp S F H F1 H1) (hn : H p = none) (hp : H1 p = some o) (fp : F1 p = none) : Stp S F H (upd F1 p o) H1 :=
  ⟨fun b u e => by
    have e1 := a.ff b u e
    rw [upd_ne (ne_of_none e1 fp)]; exact e1, fun b u e => by
    by_cases q : b = p
    · subst q; rw [upd_same] at e; cases e; exact hp
    · rw [upd_ne q] at e; exact a.fh b u e, fun b u e => by
    rw [upd_ne (ne_of_none e hn)]; exact a.fo b u e, a.keep, a.dom⟩
theorem Stp.free (a : Stp S F H F1 H1) (hp : H p = some o) (fp : F p = none) : F1 p = none := (a.fo p o hp).trans fp
end
/-! ### a def that stands, with its promise -/
structure Fn (P : Program) (w : World) (K : PySem.W.Frag) (mg : Str → Option Value) (base : Heap) (CX : CXT) (k : Nat) (nm : Str) (st : Stmt) (f : Addr) (fd : FuncData) (ps : List Str) (sp : Sp) : Prop where
  G : FnOk P w K mg base CX k f fd ps sp
  m : mg nm = some (.ref f)
  kp : PySem.W.keepIn K (.ref f) = true
  b : Binds K fd ps []
  F : Fun K nm nm st f fd
/-! ### keywords -/
def gK {α : Type} (n m : Nat) (us ws : List α) : List α := if us.length = n ∧ ws.length = m then us ++ ws else []
theorem _root_.L2.Fun.kbinds {K : PySem.W.Frag} {x qual : Str} {st : Stmt} {f : Addr} {fd : FuncData} {ps : List Str} (F : Fun K x qual st f fd) (n : Nat) (ks : List Str) (hn : 0 < ps.length)
    (h : ∀ (kV doc pm : Value) (an : Option Addr) (cdv ct : Value) (us ws : List Value), us.length = n → ws.length = ks.length → bindArgs (PySem.W.fnOf x qual (defArgs st) (defBody st) (defScope st) .none kV doc pm an cdv ct) ⟨us, ks.zip ws⟩ = pure (ps.zip (us ++ ws))) :
    KBinds K fd ps ks (gK n ks.length) (gK n ks.length) := by
  obtain ⟨oc, od, kV, doc, pm, an, cdv, ct, osl, rfl, lk, hcd⟩ := F.ex
  refine ⟨fun s us ws _ hl => ?_, fun {vs us zs ws} r rz => ?_⟩
  · by_cases c : us.length = n ∧ ws.length = ks.length
    · have e : gK n ks.length us ws = us ++ ws := if_pos c
      rw [e]
      exact .of_eq (h kV doc pm an cdv ct us ws c.1 c.2)
    · have e : gK n ks.length us ws = [] := if_neg c
      rw [e] at hl
      exact absurd hl (by show ¬ 0 = ps.length; omega)
  · unfold gK
    by_cases c : us.length = n ∧ ws.length = ks.length
    · have c' : vs.length = n ∧ zs.length = ks.length := ⟨r.length.trans c.1, rz.length.trans c.2⟩
      rw [if_pos c, if_pos c']
      exact r.append rz
    · have c' : ¬ (vs.length = n ∧ zs.length = ks.length) := fun z => c ⟨r.length.symm.trans z.1, rz.length.symm.trans z.2⟩
      rw [if_neg c, if_neg c']
      exact .nil
def tCallK0 (sp : Sp) (gV : List V → List V → List V) (E : XK) (tk : TA) : TE := fun σ H Q => tk σ H fun zs H2 => sp (gV [] zs) H2 Q E
theorem pe_callK0 {X : Cx} {CX : CXT} {k : Nat} {f : Addr} {fd : FuncData} {ps ks : List Str} {sp : Sp} {E : XK} {x : Str} {p pos : Pos} {kws : List Keyword} {tk : TA} {g : List Value → List Value → List Value} {gV : List V → List V → List V}
    (F : FnOk X.prog X.w X.K X.mg X.base CX k f fd ps sp) (hr : Room k X.A) (hg : Gl X x) (hm : X.mg x = some (.ref f)) (hk : PySem.W.keepIn X.K (.ref f) = true) (hb : KBinds X.K fd ps ks g gV) (hx : Passes CX X E) (hkw : PK X kws tk)
    (hall : (backToKw pos (keywordEach kws X.env)).all (·.1.isSome) = true := by rfl) (hks : (backToKw pos (keywordEach kws X.env)).filterMap (·.1) = ks := by rfl) (hdb : (x == ("__debug__" : Str)) = false := by decide)
    (hpl : ((backTo pos (starEach [] X.env)).any (·.1) || (backToKw pos (keywordEach kws X.env)).any (·.1.isNone)) = false := by rfl) : PE X (.Call (.Name x p) [] kws pos) (tCallK0 sp gV E tk) := by
  refine ⟨fun pins s σ H Q I h => ?_⟩
  refine wpAny_Call_Name_kw (ld_glob I hg hm ?_ hdb)
  refine PySem.W.callWith_KW0 (h₀ := X.base) I.ok.mod.kin hk hall ?_ hpl
  refine thn (hkw.run pos pins s σ H _ I h) fun ws s2 ⟨zs, H2, I2, rz, q2⟩ => ⟨I2.kIn, ?_⟩
  rw [hks]
  exact run_fnk F hr hb hx I2 .nil rz q2
def SpN (n : Nat) (s : Sp) : Sp := fun vs H Q E => vs.length = n ∧ s vs H Q E
/-! ### rules under names -/
def rInt1 : List V → Hp → VK → Prop := fun xs H Q => (∃ i, xs = [.int i] ∧ Q (.int i) H) ∨ ∃ k, xs = [.bl k] ∧ Q (.int (if k then 1 else 0)) H
def rMax2 : List V → Hp → VK → Prop := fun xs H Q => ∃ i j, xs = [.int i, .int j] ∧ Q (.int (if j > i then j else i)) H
def rMin2 : List V → Hp → VK → Prop := fun xs H Q => ∃ i j, xs = [.int i, .int j] ∧ Q (.int (if j < i then j else i)) H
def rLen (K : PySem.W.Frag) : List V → Hp → VK → Prop := fun xs H Q => ∃ p ys, xs = [.ref p] ∧ (SqL K H p ys ∨ SqT K H p ys) ∧ Q (.int ys.length) H
section
variable {X : Cx}
theorem c_int1 : CallR X (.type "int") rInt1 := call_int1
theorem c_max2 (hc : X.calm = true) : CallR X (.builtin "max") rMax2 := call_max2 hc
theorem c_min2 (hc : X.calm = true) : CallR X (.builtin "min") rMin2 := call_min2 hc
theorem c_len (K : PySem.W.Frag) (e : X.K = K) : CallR X (.builtin "len") (rLen K) := by subst e; exact call_len_seq
theorem c_isi (K : PySem.W.Frag) (e : X.K = K) : CallR X (.builtin "isinstance") (rIsi K) := by subst e; exact call_isi
theorem i_list (K : PySem.W.Frag) (e : X.K = K) : IxR X (rIxL K) := by subst e; exact ix_list
theorem i_tup (K : PySem.W.Frag) (e : X.K = K) : IxR X (rIxT K) := by subst e; exact ix_tup
theorem o_and1 : OpR X (binaryOp .BitAnd) (fun x y H Q => ∃ i : Int, x = .int i ∧ y = .int 1 ∧ Q (.int (i % 2)) H) := by
  intro pins s σ H x y v u Q I rx ry h
  obtain ⟨i, rfl, rfl, q⟩ := h
  exact op_andM pins s σ H _ _ v u Q I rx ry ⟨i, 1, rfl, rfl, by simpa using q⟩
theorem l_list (K : PySem.W.Frag) (e : X.K = K) : SlR X (rSlL K) := by subst e; exact sl_list
theorem o_in (K : PySem.W.Frag) (e : X.K = K) : OpR X (compareOp .In) (rIn K false) := by subst e; exact op_in_seq
theorem o_notIn (K : PySem.W.Frag) (e : X.K = K) : OpR X (compareOp .NotIn) (rIn K true) := by subst e; exact op_notIn_seq
def rDivmod : List V → Hp → VK → Prop := fun xs H Q => ∃ i j, xs = [.int i, .int j] ∧ CDiv i j ∧ ∀ p, H p = none → Q (.ref p) (upd H p (.tup [.int (i / j), .int (i % j)]))
theorem c_divmod : CallR X (.builtin "divmod") rDivmod := call_divmod
theorem o_eqD (K : PySem.W.Frag) (e : X.K = K) (hu : X.A.units + 64 < cLine) : OpR X (compareOp .Eq) (rEqD K) := by subst e; exact op_eqD hu
theorem o_neD (K : PySem.W.Frag) (e : X.K = K) (hu : X.A.units + 64 < cLine) : OpR X (compareOp .NotEq) (rNeD K) := by subst e; exact op_neD hu
end
theorem sz {n : Nat} (h : n ≤ 100000) : n ≤ sizeLine := Nat.le_trans h (by decide)
/-! ### readings, step by step -/
section
variable {X : Cx} {K : PySem.W.Frag} {σ : L2.St} {H F : Hp} {Q : VK} {i : Nat} {v x y : V} {ta tb : TE} {r : R2}
theorem s_var (h : σ[i]? = some (some v)) (q : Q v H) : tVar i σ H Q := ⟨v, h, q⟩
theorem s_c (q : Q v H) : tC v σ H Q := q
theorem s_op (h : ta σ H fun x H1 => tb σ H1 fun y H2 => r x y H2 Q) : tOp r ta tb σ H Q := h
theorem s_I0 {g : Int → Int → V} {i j : Int} (q : Q (g i j) H) : rI0 g (.int i) (.int j) H Q := ⟨i, j, rfl, rfl, q⟩
theorem s_I {C : Int → Int → Prop} {g : Int → Int → V} {i j : Int} (c : C i j) (q : Q (g i j) H) : rI C g (.int i) (.int j) H Q := ⟨i, j, rfl, rfl, c, q⟩
theorem s_eq (h : scal x y = true) (q : Q (.bl (decide (x = y))) H) : rEq x y H Q := ⟨h, q⟩
theorem dec_int (i j : Int) : decide (V.int i = V.int j) = decide (i = j) := by by_cases h : i = j <;> simp [h]
theorem dec_str (i j : Str) : decide (V.str i = V.str j) = decide (i = j) := by by_cases h : i = j <;> simp [h]
theorem s_eqI {i j : Int} (q : Q (.bl (decide (i = j))) H) : rEq (.int i) (.int j) H Q := ⟨rfl, by rw [dec_int]; exact q⟩
theorem s_neI {i j : Int} (q : Q (.bl (!decide (i = j))) H) : rNe (.int i) (.int j) H Q := ⟨rfl, by rw [dec_int]; exact q⟩
theorem s_eqS {i j : Str} (q : Q (.bl (decide (i = j))) H) : rEq (.str i) (.str j) H Q := ⟨rfl, by rw [dec_str]; exact q⟩
theorem s_neS {i j : Str} (q : Q (.bl (!decide (i = j))) H) : rNe (.str i) (.str j) H Q := ⟨rfl, by rw [dec_str]; exact q⟩
theorem s_chain {r' : R2} {tc : TE} (h : ta σ H fun x H1 => tb σ H1 fun y H2 => r x y H2 fun z H3 => ∃ k, z = .bl k ∧ if k = true then tc σ H3 fun u H4 => r' y u H4 Q else Q (.bl false) H3) : tChain r r' ta tb tc σ H Q := by
  unfold tChain; exact h
theorem s_par3 {i j l : Nat} {ta : TA} {D : Ends} (h : ta σ H fun vs H1 => ∃ u v w, vs = [u, v, w] ∧ D.nx (((σ.set i (some u)).set j (some v)).set l (some w)) H1) : tPar3 i j l ta D σ H := h
theorem s_par {i j : Nat} {ta : TA} {D : Ends} (h : ta σ H fun vs H1 => ∃ v w, vs = [v, w] ∧ D.nx ((σ.set i (some v)).set j (some w)) H1) : tPar i j ta D σ H := h
theorem s_v2 {x y : V} {R : V → V → Prop} (h : R x y) : ∃ a b, [x, y] = [a, b] ∧ R a b := ⟨x, y, rfl, h⟩
theorem s_v3 {x y z : V} {R : V → V → V → Prop} (h : R x y z) : ∃ a b c, [x, y, z] = [a, b, c] ∧ R a b c := ⟨x, y, z, rfl, h⟩
theorem s_tup {t : TA} (h : t σ H fun xs H1 => xs.length ≤ sizeLine ∧ ∀ p, H1 p = none → Q (.ref p) (upd H1 p (.tup xs))) : tTup t σ H Q := h
theorem s_lst {t : TA} (h : t σ H fun xs H1 => xs.length ≤ sizeLine ∧ ∀ p, H1 p = none → Q (.ref p) (upd H1 p (.lst xs))) : tLst t σ H Q := h
theorem s_nil {Q : List V → Hp → Prop} (q : Q [] H) : tNil σ H Q := q
theorem s_cons {t : TA} {Q : List V → Hp → Prop} (h : ta σ H fun x H1 => t σ H1 fun xs H2 => Q (x :: xs) H2) : tCons ta t σ H Q := h
theorem s_call {sp : Sp} {dvs : List V} {E : XK} {t : TA} (h : t σ H fun vs H1 => sp (vs ++ dvs) H1 Q E) : tCall sp dvs E t σ H Q := h
theorem s_callK0 {sp : Sp} {gV : List V → List V → List V} {E : XK} {t : TA} (h : t σ H fun zs H1 => sp (gV [] zs) H1 Q E) : tCallK0 sp gV E t σ H Q := h
theorem s_callK {sp : Sp} {gV : List V → List V → List V} {E : XK} {t tk : TA} (h : t σ H fun vs H1 => tk σ H1 fun zs H2 => sp (gV vs zs) H2 Q E) : tCallK sp gV E t tk σ H Q := h
theorem s_bits (h : ta σ H fun x H1 => ∃ i, x = .int i ∧ Q (.int (Builtin.Int.intBits i : Nat)) H1) : tBits ta σ H Q := h
theorem s_i {i : Int} {R : Int → Prop} (h : R i) : ∃ j, V.int i = V.int j ∧ R j := ⟨i, rfl, h⟩
theorem s_bm {T : String} {r : V → List V → Hp → VK → Prop} {to : TE} {t : TA} (h : to σ H fun x H1 => tyV K T x H1 ∧ t σ H1 fun xs H2 => r x xs H2 Q) : tBM K T r to t σ H Q := h
theorem s_bm0 {T : String} {r : V → List V → Hp → VK → Prop} {to : TE} (h : to σ H fun x H1 => tyV K T x H1 ∧ r x [] H1 Q) : tBM0 K T r to σ H Q := h
theorem s_m1 {r : V → List V → Hp → VK → Prop} (h : ta σ H fun x H1 => (∃ a, x = .str a) ∧ tb σ H1 fun y H2 => r x [y] H2 Q) : tM1 r ta tb σ H Q := h
theorem s_cb {r : List V → Hp → VK → Prop} {t : TA} (h : t σ H fun vs H1 => r vs H1 Q) : tCB r t σ H Q := h
theorem s_test {Q : Bool → Hp → Prop} {t : TE} (h : t σ H fun x H' => ∃ k, x = .bl k ∧ Q k H') : tTest t σ H Q := h
theorem s_tB {Q : Bool → Hp → Prop} {t : TE} (h : t σ H fun x H' => ∃ k, x = .bl k ∧ Q k H') : tB t σ H Q := h
theorem s_bl {k : Bool} {Q : Bool → Hp → Prop} (q : Q k H) : ∃ k', V.bl k = .bl k' ∧ Q k' H := ⟨k, rfl, q⟩
theorem s_not {Q : Bool → Hp → Prop} {t : TT} (h : t σ H fun c H1 => Q (!c) H1) : tNot t σ H Q := h
theorem s_and {Q : Bool → Hp → Prop} {t u : TT} (h : t σ H fun c H1 => if c = true then u σ H1 Q else Q false H1) : tAnd t u σ H Q := h
theorem s_or {Q : Bool → Hp → Prop} {t u : TT} (h : t σ H fun c H1 => if c = true then Q true H1 else u σ H1 Q) : tOr t u σ H Q := h
theorem s_un {r : V → Hp → VK → Prop} (h : ta σ H fun x H1 => r x H1 Q) : tUn r ta σ H Q := h
theorem s_U {g : Int → V} {i : Int} (q : Q (g i) H) : rU g (.int i) H Q := ⟨i, rfl, q⟩
theorem s_int1 {i : Int} (q : Q (.int i) H) : rInt1 [.int i] H Q := .inl ⟨i, rfl, q⟩
theorem s_int1b {b : Bool} (q : Q (.int (if b then 1 else 0)) H) : rInt1 [.bl b] H Q := .inr ⟨b, rfl, q⟩
theorem s_ixL {p : Addr} {xs : List V} {i : Int} (h : SqL K H p xs) (a : atI xs i = some v) (q : Q v H) : rIxL K (.ref p) (.int i) H Q := ⟨p, xs, i, v, rfl, rfl, h, a, q⟩
theorem s_ixT {p : Addr} {xs : List V} {i : Int} (h : SqT K H p xs) (a : atI xs i = some v) (q : Q v H) : rIxT K (.ref p) (.int i) H Q := ⟨p, xs, i, v, rfl, rfl, h, a, q⟩
theorem s_len {p : Addr} {xs : List V} (h : SqL K H p xs) (q : Q (.int xs.length) H) : rLen K [V.ref p] H Q := ⟨p, xs, rfl, .inl h, q⟩
theorem s_lenT {p : Addr} {xs : List V} (h : SqT K H p xs) (q : Q (.int xs.length) H) : rLen K [V.ref p] H Q := ⟨p, xs, rfl, .inr h, q⟩
theorem s_max2 {i j : Int} (q : Q (.int (if j > i then j else i)) H) : rMax2 [.int i, .int j] H Q := ⟨i, j, rfl, q⟩
theorem s_min2 {i j : Int} (q : Q (.int (if j < i then j else i)) H) : rMin2 [.int i, .int j] H Q := ⟨i, j, rfl, q⟩
theorem s_isi {v : V} {n : String} {t : String} {b : Bool} (h : TyX K H v (.type t)) (e : kitB t n = some b) (q : Q (.bl b) H) : rIsi K [v, .ty n] H Q := ⟨v, .ty n, .type t, .type n, b, rfl, .ty n, h, kit_ty e, q⟩
theorem s_eqD {d e : PyData} (h1 : Dp K H x d) (h2 : Dp K H y e) (s1 : SeqAt.shaped d = true) (s2 : SeqAt.shaped e = true) (q : Q (.bl (PyData.eqv d e)) H) : rEqD K x y H Q := ⟨d, e, h1, h2, s1, s2, q⟩
theorem s_andV {c : Bool} (h : if c = true then tb σ H Q else Q (.bl false) H) : ∃ c', V.bl c = .bl c' ∧ if c' = true then tb σ H Q else Q (.bl false) H := ⟨c, rfl, h⟩
theorem s_andV0 (h : ta σ H fun x H1 => ∃ c, x = .bl c ∧ if c = true then tb σ H1 Q else Q (.bl false) H1) : tAndV ta tb σ H Q := h
theorem s_orV0 (h : ta σ H fun x H1 => ∃ c, x = .bl c ∧ if c = true then Q (.bl true) H1 else tb σ H1 Q) : tOrV ta tb σ H Q := h
theorem s_notV (h : ta σ H fun x H1 => ∃ c, x = .bl c ∧ Q (.bl (!c)) H1) : tNotV ta σ H Q := h
theorem s_b {c : Bool} {R : Bool → Prop} (h : R c) : ∃ c', V.bl c = V.bl c' ∧ R c' := ⟨c, rfl, h⟩
theorem s_gtup {n : Nat} {t : TGs} {a : Addr} {xs : List V} {R : L2.St → Hp → Prop} (h : SqT K H a xs) (e : xs.length = n) (q : t xs σ H R) : gTup K n t (.ref a) σ H R := ⟨a, xs, rfl, h, e, q⟩
theorem s_gcons {t : TG} {u : TGs} {r : List V} {R : L2.St → Hp → Prop} (q : t v σ H fun σ' H' => u r σ' H' R) : gCons t u (v :: r) σ H R := ⟨v, r, rfl, q⟩
theorem s_gnil {R : L2.St → Hp → Prop} (q : R σ H) : gNil [] σ H R := ⟨rfl, q⟩
theorem s_gsub {to ti : TE} {t : TSet} {R : L2.St → Hp → Prop} (h : to σ H fun o H1 => ti σ H1 fun i H2 => t o i v H2 fun H3 => R σ H3) : gSub to ti t v σ H R := h
theorem s_setL {p : Addr} {xs : List V} {i : Int} {j : Nat} {R : Hp → Prop} (h : H p = some (.lst xs)) (e : ixN xs.length i = some j) (q : R (upd H p (.lst (xs.set j v)))) : rSetL (.ref p) (.int i) v H R := ⟨p, xs, i, j, rfl, rfl, h, e, q⟩
theorem s_ifE {t : TT} (h : t σ H fun c H1 => if c = true then ta σ H1 Q else tb σ H1 Q) : tIf t ta tb σ H Q := h
variable {D : Ends} {t u : TS}
theorem s_seq (h : t { D with nx := u D } σ H) : tSeq t u D σ H := h
theorem s_next (h : D.nx σ H) : tNext D σ H := h
theorem s_asg {g : TG} (h : ta σ H fun x H1 => g x σ H1 D.nx) : tAsg ta g D σ H := h
theorem s_gname {R : L2.St → Hp → Prop} (h : R (σ.set i (some v)) H) : gName i v σ H R := h
theorem s_ret (h : ta σ H D.rt) : tRet ta D σ H := h
theorem s_if {c : TT} (h : c σ H fun b H1 => if b = true then t D σ H1 else u D σ H1) : tIfS c t u D σ H := h
theorem s_drop (h : ta σ H fun _ H1 => D.nx σ H1) : tDrop ta D σ H := h
/-- a loop over what stands -/
def forT (J : It) (g : TG) (tb : TS) : TS := tFor (fun _ H R => R J H) g tb
theorem s_for {wi : TI} {g : TG} {tb : TS} (h : wi σ H fun J H1 => forT J g tb D σ H1) : tFor wi g tb D σ H := h
theorem s_iR1 {ta : TA} {R : It → Hp → Prop} (h : ta σ H fun vs H1 => ∃ n : Int, vs = [.int n] ∧ -(2 ^ 62) ≤ n ∧ n < 2 ^ 62 ∧ R (Itr 0 n.toNat) H1) : iRng1 ta σ H R := h
theorem s_iR2 {ta : TA} {R : It → Hp → Prop} (h : ta σ H fun vs H1 => ∃ m n : Int, vs = [.int m, .int n] ∧ (-(2 ^ 62) ≤ m ∧ m < 2 ^ 62 ∧ -(2 ^ 62) ≤ n ∧ n < 2 ^ 62) ∧ R (Itr m (n - m).toNat) H1) : iRng2 ta σ H R := h
theorem s_iL {R : It → Hp → Prop} (h : ta σ H fun x H1 => ∃ a, x = .ref a ∧ (∃ xs, SqL K H1 a xs) ∧ R (Itl K a) H1) : iList K ta σ H R := h
theorem s_iT {R : It → Hp → Prop} (h : ta σ H fun x H1 => ∃ a, x = .ref a ∧ (∃ xs, SqT K H1 a xs) ∧ R (Itt K a) H1) : iTup K ta σ H R := h
theorem s_iS {R : It → Hp → Prop} (h : ta σ H fun x H1 => ∃ z, x = .str z ∧ R (Its z) H1) : iStr ta σ H R := h
theorem forW {J : It} {n : Nat} {G : Hp → Prop} {Y : Nat → Hp → V → Hp → Prop} {g : TG} {tb : TS} (w : Walk J n G Y) (Pv : Nat → L2.St → Hp → Prop) (h0 : Pv 0 σ H) (hG : ∀ i σ H, i ≤ n → Pv i σ H → G H)
    (hs : ∀ i x σ H H', i < n → Pv i σ H → Y i H x H' → g x σ H' fun σ2 H2 => tb { D with nx := Pv (i + 1), ct := Pv (i + 1), bk := D.nx } σ2 H2) (hd : ∀ σ H, Pv n σ H → D.nx σ H) : forT J g tb D σ H := for_it w Pv h0 hG hs hd
theorem forR {lo : Int} {n : Nat} {g : TG} {tb : TS} (Pv : Nat → L2.St → Hp → Prop) (h0 : Pv 0 σ H) (hs : ∀ i σ H, i < n → Pv i σ H → g (.int (lo + i)) σ H fun σ2 H2 => tb { D with nx := Pv (i + 1), ct := Pv (i + 1), bk := D.nx } σ2 H2)
    (hd : ∀ σ H, Pv n σ H → D.nx σ H) : forT (Itr lo n) g tb D σ H := for_range Pv h0 hs hd
theorem forL {a : Addr} {xs : List V} {g : TG} {tb : TS} (Pv : Nat → L2.St → Hp → Prop) (h0 : Pv 0 σ H) (hl : ∀ i σ H, i ≤ xs.length → Pv i σ H → SqL K H a xs)
    (hs : ∀ i x σ H, xs[i]? = some x → Pv i σ H → g x σ H fun σ2 H2 => tb { D with nx := Pv (i + 1), ct := Pv (i + 1), bk := D.nx } σ2 H2) (hd : ∀ σ H, Pv xs.length σ H → D.nx σ H) : forT (Itl K a) g tb D σ H := for_list Pv h0 hl hs hd
/-- a comprehension over what stands -/
def lcT (J : It) (g : TG) (tt : TT) (te : TE) (vs : List Nat) : TE := tLc (fun _ H R => R J H) g tt te vs
theorem s_lc {wi : TI} {g : TG} {tt : TT} {te : TE} {vs : List Nat} (h : wi σ H fun J H1 => lcT J g tt te vs σ H1 Q) : tLc wi g tt te vs σ H Q := h
theorem s_sl {r : V → Option Int → Option Int → Hp → VK → Prop} {tl th : TO} (h : ta σ H fun x H1 => tl σ H1 fun l H2 => th σ H2 fun u H3 => r x l u H3 Q) : tSl r ta tl th σ H Q := h
theorem s_part {R : Option Int → Hp → Prop} (h : ta σ H fun x H1 => ∃ i, x = .int i ∧ R (some i) H1) : tPart ta σ H R := h
theorem s_nopart {R : Option Int → Hp → Prop} (h : R none H) : tNoPart σ H R := h
theorem s_slL {p : Addr} {xs : List V} {l u : Option Int} (h : SqL K H p xs) (q : ∀ p', H p' = none → Q (.ref p') (upd H p' (.lst (cutV xs l u)))) : rSlL K (.ref p) l u H Q := ⟨p, xs, rfl, h, q⟩
theorem s_iR3 {ta : TA} {R : It → Hp → Prop} (h : ta σ H fun vs H1 => ∃ (i j c : Int) (n : Nat), vs = [.int i, .int j, .int c] ∧ RgC i j c n ∧ R (Itc i c n) H1) : iRng3 ta σ H R := h
theorem rgc_up {L k : Int} (hL : 0 ≤ L) (hL2 : L < 2 ^ 62) (hk : 0 < k) (hk2 : k < 1073741824) : RgC 0 L k ((L + k - 1) / k).toNat := by
  have e : Builtin.Range.rangeSize 0 L k = (((L + k - 1) / k).toNat : Int) := by
    unfold Builtin.Range.rangeSize
    rw [if_pos hk]
    have h0 : 0 ≤ (L + k - 1) / k := Int.ediv_nonneg (by omega) (by omega)
    split
    · rw [show L + k - 1 = (L - 0 - 1) + k by omega, Int.add_ediv_of_dvd_right (Int.dvd_refl k), Int.ediv_self (by omega)]
      have : 0 ≤ (L - 0 - 1) / k := Int.ediv_nonneg (by omega) (by omega)
      omega
    · have : L = 0 := by omega
      subst this
      rw [Int.ediv_eq_zero_of_lt (by omega) (by omega)]; rfl
  refine ⟨by omega, by omega, ?_, e⟩
  have hb : (L + k - 1) / k ≤ L + k - 1 := Int.ediv_le_self _ (by omega)
  unfold Builtin.Range.small
  rw [e]
  simp only [Builtin.Range.rangeFitsLong, Bool.and_eq_true, Bool.or_eq_true, decide_eq_true_eq, beq_iff_eq, show (k > 0) = True from eq_true hk, if_true]
  omega
theorem s_wipe {σ2 : L2.St} {vs : List Nat} {R : Prop} (h : wipe σ2 vs = wipe σ vs) (q : R) : wipe σ2 vs = wipe σ vs ∧ R := ⟨h, q⟩
theorem s_yes {Q : Bool → Hp → Prop} (q : Q true H) : tYes σ H Q := q
/-- within a comprehension: what has been made so far stands at D -/
structure LcP (S : Addr → Prop) (F H : Hp) (Dd : Addr) (R : Nat → List V → Hp → Hp → Prop) (i : Nat) (Hc : Hp) : Prop where
  ex : ∃ Fc acc, Stp S F H Fc Hc ∧ Fc Dd = none ∧ Hc Dd = some (.lst acc) ∧ acc.length ≤ i ∧ R i acc Fc Hc
  fresh : H Dd = none
theorem lcW {J : It} {n : Nat} {G : Hp → Prop} {Y : Nat → Hp → V → Hp → Prop} {g : TG} {tt : TT} {te : TE} {vs : List Nat} (w : Walk J n G Y) (S : Addr → Prop) (hF : Same F H) (hS : ∀ b, S b → ∃ o, H b = some o)
    (hG : ∀ F1 H1, Stp S F H F1 H1 → G H1) (R : Nat → List V → Hp → Hp → Prop) (hR : ∀ i acc F1 H1 d o, ¬ S d → F1 d = none → Stp S F H F1 H1 → R i acc F1 H1 → R i acc F1 (upd H1 d o)) (h0 : R 0 [] F H)
    (hs : ∀ i x acc d F1 H1 H2, i < n → Y i H1 x H2 → H d = none → ¬ S d → Stp S F H F1 H1 → F1 d = none → H1 d = some (.lst acc) → acc.length ≤ i → R i acc F1 H1 → g x (wipe σ vs) H2 fun σ2 H3 => wipe σ2 vs = wipe σ vs ∧ tt σ2 H3 fun b H4 =>
      if b = true then te σ2 H4 fun y H5 => ∃ acc', H5 d = some (.lst acc') ∧ acc'.length < sizeLine ∧ LcP S F H d R (i + 1) (upd H5 d (.lst (acc' ++ [y]))) else LcP S F H d R (i + 1) H4)
    (hd : ∀ d acc F0 F1 H1, Stp S F H F0 H1 → H d = none → F0 d = none → F1 = upd F0 d (.lst acc) → Stp S F H F1 H1 → acc.length ≤ n → R n acc F0 H1 → Q (.ref d) H1) : lcT J g tt te vs σ H Q := by
  intro d hd0
  have nS : ¬ S d := fun z => by
    obtain ⟨o, e⟩ := hS d z
    rw [hd0] at e; cases e
  refine lc_it w (LcP S F H d R) ⟨⟨F, [], Stp.cell hF hd0, hF.free hd0, upd_same, Nat.le_refl _, hR 0 [] F H d _ nS (hF.free hd0) (.rfl' hF) h0⟩, hd0⟩ (fun i H1 _ p => ?_) (fun i x H1 H2 hi p y => ?_) (fun H1 p => ?_)
  · obtain ⟨⟨Fc, acc, st, _⟩, _⟩ := p
    exact hG _ _ st
  · obtain ⟨⟨Fc, acc, st, f0, e, hl, r⟩, _⟩ := p
    exact hs i x acc d Fc H1 H2 hi y hd0 nS st f0 e hl r
  · obtain ⟨⟨Fc, acc, st, f0, e, hl, r⟩, _⟩ := p
    exact hd d acc Fc _ H1 st hd0 f0 rfl (st.freeze hd0 e f0) hl r
theorem lc_end {S : Addr → Prop} {R : Nat → List V → Hp → Hp → Prop} {i : Nat} {acc : List V} {d : Addr} {F1 H1 F4 H4 : Hp} {y : V} (hN : H d = none) (nS : ¬ S d) (st : Stp S F H F1 H1) (f0 : F1 d = none) (e : H1 d = some (.lst acc)) (hl : acc.length ≤ i) (hi : i < 100000)
    (s4 : Stp S F1 H1 F4 H4) (r : R (i + 1) (acc ++ [y]) F4 (upd H4 d (.lst (acc ++ [y])))) : ∃ acc', H4 d = some (.lst acc') ∧ acc'.length < sizeLine ∧ LcP S F H d R (i + 1) (upd H4 d (.lst (acc' ++ [y]))) :=
  ⟨acc, s4.keep _ _ nS e, Nat.lt_of_lt_of_le (Nat.lt_of_le_of_lt hl hi) (by decide), ⟨⟨F4, acc ++ [y], (st.trans s4).wrNew hN ((s4.fo _ _ e).trans f0), (s4.fo _ _ e).trans f0, upd_same, by simp; omega, r⟩, hN⟩⟩
theorem lc_skip {S : Addr → Prop} {R : Nat → List V → Hp → Hp → Prop} {i : Nat} {acc : List V} {d : Addr} {F1 H1 F4 H4 : Hp} (hN : H d = none) (nS : ¬ S d) (st : Stp S F H F1 H1) (f0 : F1 d = none) (e : H1 d = some (.lst acc)) (hl : acc.length ≤ i)
    (s4 : Stp S F1 H1 F4 H4) (r : R (i + 1) acc F4 H4) : LcP S F H d R (i + 1) H4 := ⟨⟨F4, acc, st.trans s4, (s4.fo _ _ e).trans f0, s4.keep _ _ nS e, by omega, r⟩, hN⟩
theorem ifd {p A B : Prop} [Decidable p] (a : p → A) (b : ¬ p → B) : if decide p = true then A else B := by
  by_cases h : p
  · rw [if_pos (decide_eq_true h)]; exact a h
  · rw [if_neg (by simp [h])]; exact b h
theorem itNF {A B : Prop} (h : B) : if (!true) = true then A else B := h
theorem itNT {A B : Prop} (h : A) : if (!false) = true then A else B := h
theorem ifn {p A B : Prop} [Decidable p] (a : p → B) (b : ¬ p → A) : if (!decide p) = true then A else B := by
  by_cases h : p
  · rw [if_neg (by simp [h])]; exact a h
  · rw [if_pos (by simp [h])]; exact b h
end
theorem eqv_ints (u v : Int) : PyData.eqv (.tuple [.int u, .int v]) (.tuple [.int u, .int v]) = true := by simp [PyData.eqv, PyData.eqvAll]
/-! ### tests that may be weakened (for while) -/
def MonE (t : TE) : Prop := ∀ σ H (Q Q' : VK), (∀ v H1, Q v H1 → Q' v H1) → t σ H Q → t σ H Q'
def MonT (t : TT) : Prop := ∀ σ H (Q Q' : Bool → Hp → Prop), (∀ b H1, Q b H1 → Q' b H1) → t σ H Q → t σ H Q'
def MonA (t : TA) : Prop := ∀ σ H (Q Q' : List V → Hp → Prop), (∀ vs H1, Q vs H1 → Q' vs H1) → t σ H Q → t σ H Q'
def MonR (r : R2) : Prop := ∀ x y H (Q Q' : VK), (∀ v H1, Q v H1 → Q' v H1) → r x y H Q → r x y H Q'
theorem mon_var {i : Nat} : MonE (tVar i) := fun _ _ _ _ h ⟨v, e, q⟩ => ⟨v, e, h _ _ q⟩
theorem mon_c {v : V} : MonE (tC v) := fun _ _ _ _ h q => h _ _ q
theorem mon_op {r : R2} {a b : TE} (hr : MonR r) (ha : MonE a) (hb : MonE b) : MonE (tOp r a b) := fun σ _ _ _ h q => ha _ _ _ _ (fun x H1 q1 => hb _ _ _ _ (fun y H2 q2 => hr _ _ _ _ _ h q2) q1) q
theorem mon_I0 {g : Int → Int → V} : MonR (rI0 g) := fun _ _ _ _ _ h ⟨i, j, e1, e2, q⟩ => ⟨i, j, e1, e2, h _ _ q⟩
theorem mon_I {C : Int → Int → Prop} {g : Int → Int → V} : MonR (rI C g) := fun _ _ _ _ _ h ⟨i, j, e1, e2, c, q⟩ => ⟨i, j, e1, e2, c, h _ _ q⟩
theorem mon_eq : MonR rEq := fun _ _ _ _ _ h ⟨e, q⟩ => ⟨e, h _ _ q⟩
theorem mon_ne : MonR rNe := fun _ _ _ _ _ h ⟨e, q⟩ => ⟨e, h _ _ q⟩
theorem mon_ixL {K : PySem.W.Frag} : MonR (rIxL K) := fun _ _ _ _ _ h ⟨p, xs, i, v, e1, e2, s, a, q⟩ => ⟨p, xs, i, v, e1, e2, s, a, h _ _ q⟩
theorem mon_nil : MonA tNil := fun _ _ _ _ h q => h _ _ q
theorem mon_cons {a : TE} {t : TA} (ha : MonE a) (ht : MonA t) : MonA (tCons a t) := fun σ _ _ _ h q => ha _ _ _ _ (fun x H1 q1 => ht _ _ _ _ (fun xs H2 q2 => h _ _ q2) q1) q
theorem mon_len {K : PySem.W.Frag} {t : TA} (ht : MonA t) : MonE (tCB (rLen K) t) := fun σ _ _ _ h q => ht _ _ _ _ (fun vs H1 ⟨p, ys, e, s, q1⟩ => ⟨p, ys, e, s, h _ _ q1⟩) q
theorem mon_test {a : TE} (ha : MonE a) : MonT (tTest a) := fun σ _ _ _ h q => ha _ _ _ _ (fun x H1 ⟨k, e, q1⟩ => ⟨k, e, h _ _ q1⟩) q
theorem mon_and {a b : TT} (ha : MonT a) (hb : MonT b) : MonT (tAnd a b) := fun σ _ _ _ h q => ha _ _ _ _ (fun c H1 q1 => by
  cases c with
  | true => exact hb _ _ _ _ h q1
  | false => exact h _ _ q1) q
theorem whileM {D : Ends} {σ : L2.St} {H : Hp} {c : TT} {tb : TS} (m : MonT c) (Pv : L2.St → Hp → Prop) (μ : L2.St → Hp → Nat) (h0 : Pv σ H)
    (hs : ∀ σ H, Pv σ H → c σ H fun b H1 => if b = true then tb { D with nx := fun σ' H' => Pv σ' H' ∧ μ σ' H' < μ σ H, ct := fun σ' H' => Pv σ' H' ∧ μ σ' H' < μ σ H, bk := D.nx } σ H1 else D.nx σ H1) : tWhile c tb D σ H := while_by Pv μ h0 hs m
/-! ### data compared: lists and tuples of numbers -/
open PyData in
theorem depthAll_ints : ∀ ns : List Int, depthAll (ns.map PyData.int) ≤ 1
  | [] => by simp [depthAll]
  | n :: ns => by
    have := depthAll_ints ns
    simp only [List.map_cons, depthAll, depth]
    omega
open PyData in
theorem canLay_ints : ∀ ns : List Int, canLayAll0 (ns.map PyData.int) = true
  | [] => rfl
  | n :: ns => by simp [canLayAll0, canLay0, canLay_ints ns]
theorem shaped_ints (ns : List Int) : SeqAt.shaped (.list (ns.map .int)) = true := by
  have h := depthAll_ints ns
  have e : (PyData.list (ns.map .int)).depth = PyData.depthAll (ns.map .int) + 1 := by rw [PyData.depth]
  exact Bool.and_eq_true_iff.mpr ⟨by rw [PyData.canLay0]; exact canLay_ints ns, decide_eq_true (by rw [e]; omega)⟩
theorem shaped_intsT (ns : List Int) : SeqAt.shaped (.tuple (ns.map .int)) = true := by
  have h := depthAll_ints ns
  have e : (PyData.tuple (ns.map .int)).depth = PyData.depthAll (ns.map .int) + 1 := by rw [PyData.depth]
  exact Bool.and_eq_true_iff.mpr ⟨by rw [PyData.canLay0]; exact canLay_ints ns, decide_eq_true (by rw [e]; omega)⟩
open PyData in
theorem eqvAll_ints : ∀ ns ms : List Int, eqvAll (ns.map PyData.int) (ms.map PyData.int) = decide (ns = ms)
  | [], [] => rfl
  | [], _ :: _ => by simp [eqvAll]
  | _ :: _, [] => by simp [eqvAll]
  | n :: ns, m :: ms => by
    simp only [List.map_cons, eqvAll, eqv, eqvAll_ints ns ms]
    by_cases h : n = m <;> by_cases h2 : ns = ms <;> simp [h, h2]
theorem eqv_intsL (ns ms : List Int) : PyData.eqv (.list (ns.map .int)) (.list (ms.map .int)) = decide (ns = ms) := by rw [PyData.eqv, eqvAll_ints]
theorem eqv_intsT (ns ms : List Int) : PyData.eqv (.tuple (ns.map .int)) (.tuple (ms.map .int)) = decide (ns = ms) := by rw [PyData.eqv, eqvAll_ints]
theorem dp_all_ints {K : PySem.W.Frag} {H : Hp} : ∀ ns : List Int, DpAll K H (ns.map V.int) (ns.map .int)
  | [] => .nil
  | n :: ns => .cons (.int n) (dp_all_ints ns)
theorem dp_ints {K : PySem.W.Frag} {H : Hp} {a : Addr} {ns : List Int} (h : SqL K H a (ns.map V.int)) : Dp K H (.ref a) (.list (ns.map .int)) := .lst h (dp_all_ints ns)
theorem dp_intsT {K : PySem.W.Frag} {H : Hp} {a : Addr} {ns : List Int} (h : SqT K H a (ns.map V.int)) : Dp K H (.ref a) (.tuple (ns.map .int)) := .tup h (dp_all_ints ns)
/-- two lists of numbers compared -/
theorem s_eqL {K : PySem.W.Frag} {H : Hp} {Q : VK} {a b : Addr} {ns ms : List Int} (h1 : SqL K H a (ns.map V.int)) (h2 : SqL K H b (ms.map V.int)) (q : Q (.bl (decide (ns = ms))) H) : rEqD K (.ref a) (.ref b) H Q :=
  s_eqD (dp_ints h1) (dp_ints h2) (shaped_ints _) (shaped_ints _) (by rw [eqv_intsL]; exact q)
theorem s_neL {K : PySem.W.Frag} {H : Hp} {Q : VK} {a b : Addr} {ns ms : List Int} (h1 : SqL K H a (ns.map V.int)) (h2 : SqL K H b (ms.map V.int)) (q : Q (.bl (!decide (ns = ms))) H) : rNeD K (.ref a) (.ref b) H Q :=
  ⟨_, _, dp_ints h1, dp_ints h2, shaped_ints _, shaped_ints _, by rw [eqv_intsL]; exact q⟩
theorem s_eqT {K : PySem.W.Frag} {H : Hp} {Q : VK} {a b : Addr} {ns ms : List Int} (h1 : SqT K H a (ns.map V.int)) (h2 : SqT K H b (ms.map V.int)) (q : Q (.bl (decide (ns = ms))) H) : rEqD K (.ref a) (.ref b) H Q :=
  s_eqD (dp_intsT h1) (dp_intsT h2) (shaped_intsT _) (shaped_intsT _) (by rw [eqv_intsT]; exact q)
theorem s_neT {K : PySem.W.Frag} {H : Hp} {Q : VK} {a b : Addr} {ns ms : List Int} (h1 : SqT K H a (ns.map V.int)) (h2 : SqT K H b (ms.map V.int)) (q : Q (.bl (!decide (ns = ms))) H) : rNeD K (.ref a) (.ref b) H Q :=
  ⟨_, _, dp_intsT h1, dp_intsT h2, shaped_intsT _, shaped_intsT _, by rw [eqv_intsT]; exact q⟩
theorem rep_int (n k : Nat) (b : Int) : (List.replicate n [V.int b]).flatten = (List.replicate n b).map V.int := by induction n <;> simp_all [List.replicate_succ]
theorem get_int {ns : List Int} {i : Nat} (h : i < ns.length) : (ns.map V.int)[i]? = some (V.int ns[i]) := by simp [h]
/-- what a call left behind: a new thing that stands still from now on -/
theorem Stp.got {S : Addr → Prop} {F H H' : Hp} {p : Addr} {o : HO} (h : Same F H) (s : Same H H') (hn : H p = none) (hp : H' p = some o) : Stp S F H (upd F p o) H' := by
  have fp : F p = none := h.free hn
  refine ⟨fun b u e => by rw [upd_ne (ne_of_none e fp)]; exact e, fun b u e => ?_, fun b u e => by rw [upd_ne (ne_of_none e hn)], fun b u _ e => s b u e, fun b u e => ⟨u, s b u e⟩⟩
  by_cases q : b = p
  · subst q; rw [upd_same] at e; cases e; exact hp
  · rw [upd_ne q] at e; exact s b u (h b u e)
open PyData in
theorem depthAll_bools : ∀ ns : List Bool, depthAll (ns.map PyData.bool) ≤ 1
  | [] => by simp [depthAll]
  | n :: ns => by
    have := depthAll_bools ns
    simp only [List.map_cons, depthAll, depth]
    omega
open PyData in
theorem canLay_bools : ∀ ns : List Bool, canLayAll0 (ns.map PyData.bool) = true
  | [] => rfl
  | n :: ns => by simp [canLayAll0, canLay0, canLay_bools ns]
theorem shaped_bools (ns : List Bool) : SeqAt.shaped (.list (ns.map .bool)) = true := by
  have h := depthAll_bools ns
  have e : (PyData.list (ns.map .bool)).depth = PyData.depthAll (ns.map .bool) + 1 := by rw [PyData.depth]
  exact Bool.and_eq_true_iff.mpr ⟨by rw [PyData.canLay0]; exact canLay_bools ns, decide_eq_true (by rw [e]; omega)⟩
open PyData in
theorem eqvAll_bools : ∀ ns ms : List Bool, eqvAll (ns.map PyData.bool) (ms.map PyData.bool) = decide (ns = ms)
  | [], [] => rfl
  | [], _ :: _ => by simp [eqvAll]
  | _ :: _, [] => by simp [eqvAll]
  | n :: ns, m :: ms => by
    simp only [List.map_cons, eqvAll, eqv, eqvAll_bools ns ms]
    by_cases h : n = m <;> by_cases h2 : ns = ms <;> simp [h, h2]
theorem eqv_boolsL (ns ms : List Bool) : PyData.eqv (.list (ns.map .bool)) (.list (ms.map .bool)) = decide (ns = ms) := by rw [PyData.eqv, eqvAll_bools]
theorem dp_all_bools {K : PySem.W.Frag} {H : Hp} : ∀ ns : List Bool, DpAll K H (ns.map V.bl) (ns.map .bool)
  | [] => .nil
  | n :: ns => .cons (.bl n) (dp_all_bools ns)
theorem dp_bools {K : PySem.W.Frag} {H : Hp} {a : Addr} {ns : List Bool} (h : SqL K H a (ns.map V.bl)) : Dp K H (.ref a) (.list (ns.map .bool)) := .lst h (dp_all_bools ns)
theorem s_neB {K : PySem.W.Frag} {H : Hp} {Q : VK} {a b : Addr} {ns ms : List Bool} (h1 : SqL K H a (ns.map V.bl)) (h2 : SqL K H b (ms.map V.bl)) (q : Q (.bl (!decide (ns = ms))) H) : rNeD K (.ref a) (.ref b) H Q :=
  ⟨_, _, dp_bools h1, dp_bools h2, shaped_bools _, shaped_bools _, by rw [eqv_boolsL]; exact q⟩
theorem eqV_int (i j : Int) : eqV (.int i) (.int j) = decide (i = j) := by
  show (i == j) = decide (i = j)
  by_cases h : i = j <;> simp [h]
theorem inV_ints (x : Int) (ns : List Int) : inV (.int x) (ns.map V.int) = decide (x ∈ ns) := by
  unfold inV
  induction ns with
  | nil => simp
  | cons n ns ih =>
    rw [List.map_cons, List.any_cons, ih, eqV_int]
    by_cases h : n = x
    · subst h; simp
    · by_cases h2 : x ∈ ns
      · simp [h2]
      · have : ¬ x = n := fun z => h z.symm
        simp [h, h2, this]
theorem flat_ints (ns : List Int) : (ns.map V.int).all flatV = true := by
  rw [List.all_eq_true]; intro v hv
  obtain ⟨n, _, rfl⟩ := List.mem_map.mp hv
  rfl
/-- a number in a list of numbers -/
theorem s_inI {K : PySem.W.Frag} {H : Hp} {Q : VK} {a : Addr} {ns : List Int} {x : Int} (h : SqL K H a (ns.map V.int)) (q : Q (.bl (decide (x ∈ ns))) H) : rIn K false (.int x) (.ref a) H Q :=
  ⟨a, _, rfl, .inl h, rfl, flat_ints ns, by rw [if_neg (by decide), inV_ints]; exact q⟩
theorem cutV_nat (xs : List V) (i j : Nat) : cutV xs (some (i : Int)) (some (j : Int)) = (xs.drop i).take (j - i) := by
  unfold cutV
  rw [HT.sIx_nat, HT.sIx_nat]
  by_cases h : i ≤ xs.length
  · rw [Nat.min_eq_left h]
    by_cases h2 : j ≤ xs.length
    · rw [Nat.min_eq_left h2]
    · rw [Nat.min_eq_right (by omega), List.take_of_length_le (by simp), List.take_of_length_le (by simp; omega)]
  · rw [Nat.min_eq_right (show xs.length ≤ i by omega), List.drop_of_length_le (Nat.le_refl _), List.drop_of_length_le (by omega)]; simp
theorem cutV_from (xs : List V) (i : Nat) : cutV xs (some (i : Int)) none = xs.drop i := by
  unfold cutV
  rw [HT.sIx_nat, HT.sIx_none]
  by_cases h : i ≤ xs.length
  · rw [Nat.min_eq_left h, List.take_of_length_le (by simp)]
  · rw [Nat.min_eq_right (by omega), List.drop_of_length_le (by omega), List.drop_of_length_le (by omega)]; simp
theorem cutV_to (xs : List V) (j : Nat) : cutV xs none (some (j : Int)) = xs.take j := by
  unfold cutV
  rw [HT.sIx_nat, HT.sIx_none]
  by_cases h2 : j ≤ xs.length
  · rw [Nat.min_eq_left h2]; simp
  · rw [Nat.min_eq_right (by omega), List.take_of_length_le (by simp), List.take_of_length_le (by omega)]; simp
/-- values without parts, as data -/
def toD : V → PyData
  | .bl b => .bool b
  | .int i => .int i
  | .str s => .str s
  | _ => .none
def flatW (v : V) : Bool := match v with
  | .non => true
  | .bl _ => true
  | .int _ => true
  | .str s => PyData.strOk s
  | _ => false
theorem dp_flat {K : PySem.W.Frag} {H : Hp} {v : V} (h : flatW v = true) : Dp K H v (toD v) := by
  cases v with
  | non => exact .non
  | bl b => exact .bl b
  | int i => exact .int i
  | str s => exact .str s
  | _ => cases h
theorem dp_flats {K : PySem.W.Frag} {H : Hp} : ∀ {vs : List V}, vs.all flatW = true → DpAll K H vs (vs.map toD)
  | [], _ => .nil
  | v :: vs, h => by
    rw [List.all_cons, Bool.and_eq_true] at h
    exact .cons (dp_flat h.1) (dp_flats h.2)
open PyData in
theorem depthAll_flat : ∀ vs : List V, depthAll (vs.map toD) ≤ 1
  | [] => by simp [depthAll]
  | n :: ns => by
    have := depthAll_flat ns
    have e : depth (toD n) = 0 := by cases n <;> simp [toD, depth]
    simp only [List.map_cons, depthAll, e]
    omega
open PyData in
theorem canLay_flat : ∀ vs : List V, vs.all flatW = true → canLayAll0 (vs.map toD) = true
  | [], _ => rfl
  | n :: ns, h => by
    rw [List.all_cons, Bool.and_eq_true] at h
    have e : canLay0 (toD n) = true := by
      cases n with
      | str s => exact h.1
      | _ => rfl
    simp [canLayAll0, e, canLay_flat ns h.2]
theorem shaped_flatT {vs : List V} (h : vs.all flatW = true) : SeqAt.shaped (.tuple (vs.map toD)) = true := by
  have h1 := depthAll_flat vs
  have e : (PyData.tuple (vs.map toD)).depth = PyData.depthAll (vs.map toD) + 1 := by rw [PyData.depth]
  exact Bool.and_eq_true_iff.mpr ⟨by rw [PyData.canLay0]; exact canLay_flat vs h, decide_eq_true (by rw [e]; omega)⟩
/-- two equal tuples compared -/
theorem s_neTs {K : PySem.W.Frag} {H : Hp} {Q : VK} {a b : Addr} {vs : List V} (h1 : SqT K H a vs) (h2 : SqT K H b vs) (f : vs.all flatW = true) (q : Q (.bl false) H) : rNeD K (.ref a) (.ref b) H Q :=
  ⟨_, _, .tup h1 (dp_flats f), .tup h2 (dp_flats f), shaped_flatT f, shaped_flatT f, by rw [SeqAt.eqv_refl _ (SeqAt.canLay_of_shaped (shaped_flatT f))]; exact q⟩
theorem s_eqTs {K : PySem.W.Frag} {H : Hp} {Q : VK} {a b : Addr} {vs : List V} (h1 : SqT K H a vs) (h2 : SqT K H b vs) (f : vs.all flatW = true) (q : Q (.bl true) H) : rEqD K (.ref a) (.ref b) H Q :=
  ⟨_, _, .tup h1 (dp_flats f), .tup h2 (dp_flats f), shaped_flatT f, shaped_flatT f, by rw [SeqAt.eqv_refl _ (SeqAt.canLay_of_shaped (shaped_flatT f))]; exact q⟩
/-- a written list of one thing, so many times -/
theorem s_rep {H : Hp} {Q : VK} {l : Addr} {v : V} {k : Int} (h : H l = some (.lst [v])) (k1 : k ≤ 100000) (k0 : -100000 ≤ k) (q : ∀ p, H p = none → Q (.ref p) (upd H p (.lst (List.replicate k.toNat v)))) : rRep (.ref l) (.int k) H Q := by
  have e : (List.replicate k.toNat [v]).flatten = List.replicate k.toNat v := by
    generalize k.toNat = n
    induction n with
    | zero => rfl
    | succ n ih => rw [List.replicate_succ, List.flatten_cons, ih]; rfl
  have hz : 1 * k.toNat ≤ sizeLine := by rw [Nat.one_mul]; exact sz (by omega)
  exact ⟨l, k, [v], rfl, rfl, h, by omega, by omega, hz, fun p hp => by rw [e]; exact q p hp⟩
/-- lists of lists of numbers -/
def RowV (K : PySem.W.Frag) (H : Hp) (v : V) (l : List Int) : Prop := ∃ a, v = .ref a ∧ SqL K H a (l.map V.int)
inductive RowsV (K : PySem.W.Frag) (H : Hp) : List V → List (List Int) → Prop
  | nil : RowsV K H [] []
  | cons {v : V} {vs : List V} {l : List Int} {ls : List (List Int)} : RowV K H v l → RowsV K H vs ls → RowsV K H (v :: vs) (l :: ls)
theorem RowsV.dp {K : PySem.W.Frag} {H : Hp} : ∀ {vs : List V} {ls : List (List Int)}, RowsV K H vs ls → DpAll K H vs (ls.map fun l => .list (l.map .int))
  | _, _, .nil => .nil
  | _, _, .cons ⟨a, e, h⟩ r => .cons (e ▸ dp_ints h) r.dp
open PyData in
theorem depthAll_rows : ∀ ls : List (List Int), depthAll (ls.map fun l => PyData.list (l.map .int)) ≤ 2
  | [] => by simp [depthAll]
  | l :: ls => by
    have h1 := depthAll_rows ls
    have h2 := depthAll_ints l
    simp only [List.map_cons, depthAll, depth]
    omega
open PyData in
theorem canLay_rows : ∀ ls : List (List Int), canLayAll0 (ls.map fun l => PyData.list (l.map .int)) = true
  | [] => rfl
  | l :: ls => by simp [canLayAll0, canLay0, canLay_ints, canLay_rows ls]
theorem shaped_rows (ls : List (List Int)) : SeqAt.shaped (.list (ls.map fun l => .list (l.map .int))) = true := by
  have h := depthAll_rows ls
  have e : (PyData.list (ls.map fun l => PyData.list (l.map .int))).depth = PyData.depthAll (ls.map fun l => PyData.list (l.map .int)) + 1 := by rw [PyData.depth]
  exact Bool.and_eq_true_iff.mpr ⟨by rw [PyData.canLay0]; exact canLay_rows ls, decide_eq_true (by rw [e]; omega)⟩
theorem s_eqRows {K : PySem.W.Frag} {H : Hp} {Q : VK} {a b : Addr} {xs ys : List V} {ls : List (List Int)} (h1 : SqL K H a xs) (h2 : SqL K H b ys) (r1 : RowsV K H xs ls) (r2 : RowsV K H ys ls) (q : Q (.bl true) H) : rEqD K (.ref a) (.ref b) H Q :=
  s_eqD (.lst h1 r1.dp) (.lst h2 r2.dp) (shaped_rows ls) (shaped_rows ls) (by rw [SeqAt.eqv_refl _ (SeqAt.canLay_of_shaped (shaped_rows ls))]; exact q)
theorem s_neRows {K : PySem.W.Frag} {H : Hp} {Q : VK} {a b : Addr} {xs ys : List V} {ls : List (List Int)} (h1 : SqL K H a xs) (h2 : SqL K H b ys) (r1 : RowsV K H xs ls) (r2 : RowsV K H ys ls) (q : Q (.bl false) H) : rNeD K (.ref a) (.ref b) H Q :=
  ⟨_, _, .lst h1 r1.dp, .lst h2 r2.dp, shaped_rows ls, shaped_rows ls, by rw [SeqAt.eqv_refl _ (SeqAt.canLay_of_shaped (shaped_rows ls))]; exact q⟩
/-- lists of flat tuples -/
def TupV (K : PySem.W.Frag) (H : Hp) (v : V) (l : List V) : Prop := ∃ a, v = .ref a ∧ SqT K H a l ∧ l.all flatW = true
inductive TupsV (K : PySem.W.Frag) (H : Hp) : List V → List (List V) → Prop
  | nil : TupsV K H [] []
  | cons {v : V} {vs : List V} {l : List V} {ls : List (List V)} : TupV K H v l → TupsV K H vs ls → TupsV K H (v :: vs) (l :: ls)
theorem TupsV.dp {K : PySem.W.Frag} {H : Hp} : ∀ {vs : List V} {ls : List (List V)}, TupsV K H vs ls → DpAll K H vs (ls.map fun l => .tuple (l.map toD))
  | _, _, .nil => .nil
  | _, _, .cons ⟨_, e, h, f⟩ r => .cons (e ▸ .tup h (dp_flats f)) r.dp
open PyData in
theorem depthAll_tups : ∀ ls : List (List V), depthAll (ls.map fun l => PyData.tuple (l.map toD)) ≤ 2
  | [] => by simp [depthAll]
  | l :: ls => by
    have h1 := depthAll_tups ls
    have h2 := depthAll_flat l
    simp only [List.map_cons, depthAll, depth]
    omega
open PyData in
theorem canLay_tups {K : PySem.W.Frag} {H : Hp} : ∀ {vs : List V} {ls : List (List V)}, TupsV K H vs ls → canLayAll0 (ls.map fun l => PyData.tuple (l.map toD)) = true
  | _, _, .nil => rfl
  | _, _, .cons ⟨_, _, _, f⟩ r => by simp [canLayAll0, canLay0, canLay_flat _ f, canLay_tups r]
theorem shaped_tups {K : PySem.W.Frag} {H : Hp} {vs : List V} {ls : List (List V)} (r : TupsV K H vs ls) : SeqAt.shaped (.list (ls.map fun l => .tuple (l.map toD))) = true := by
  have h := depthAll_tups ls
  have e : (PyData.list (ls.map fun l => PyData.tuple (l.map toD))).depth = PyData.depthAll (ls.map fun l => PyData.tuple (l.map toD)) + 1 := by rw [PyData.depth]
  exact Bool.and_eq_true_iff.mpr ⟨by rw [PyData.canLay0]; exact canLay_tups r, decide_eq_true (by rw [e]; omega)⟩
theorem s_eqTups {K : PySem.W.Frag} {H : Hp} {Q : VK} {a b : Addr} {xs ys : List V} {ls : List (List V)} (h1 : SqL K H a xs) (h2 : SqL K H b ys) (r1 : TupsV K H xs ls) (r2 : TupsV K H ys ls) (q : Q (.bl true) H) : rEqD K (.ref a) (.ref b) H Q :=
  s_eqD (.lst h1 r1.dp) (.lst h2 r2.dp) (shaped_tups r1) (shaped_tups r2) (by rw [SeqAt.eqv_refl _ (SeqAt.canLay_of_shaped (shaped_tups r1))]; exact q)
theorem s_neTups {K : PySem.W.Frag} {H : Hp} {Q : VK} {a b : Addr} {xs ys : List V} {ls : List (List V)} (h1 : SqL K H a xs) (h2 : SqL K H b ys) (r1 : TupsV K H xs ls) (r2 : TupsV K H ys ls) (q : Q (.bl false) H) : rNeD K (.ref a) (.ref b) H Q :=
  ⟨_, _, .lst h1 r1.dp, .lst h2 r2.dp, shaped_tups r1, shaped_tups r2, by rw [SeqAt.eqv_refl _ (SeqAt.canLay_of_shaped (shaped_tups r1))]; exact q⟩
/-! ### a list to draw from: [a great number, a number that is stirred] -/
def Src (F H : Hp) (p : Addr) : Prop := Same F H ∧ F p = none ∧ ∃ a b : Int, H p = some (.lst [.int a, .int b]) ∧ 0 ≤ b ∧ b < 2147483647
theorem Src.of {F H H' : Hp} {p : Addr} (h : Src F H p) (s : Same H H') : Src F H' p := let ⟨a, b, x, y, e, z⟩ := h; ⟨a.trans s, b, x, y, s _ _ e, z⟩
theorem Src.wr {F H : Hp} {p : Addr} {x y : Int} (h : Src F H p) (y0 : 0 ≤ y) (y1 : y < 2147483647) : Src F (upd H p (.lst [.int x, .int y])) p :=
  ⟨(Stp.wr (S := S1 p) h.1 rfl h.2.1).fh, h.2.1, x, y, upd_same, y0, y1⟩
theorem Src.weak {F F' H : Hp} {p : Addr} (h : Src F' H p) (s : Same F F') : Src F H p := let ⟨a, b, x⟩ := h; ⟨s.trans a, s.free b, x⟩
theorem Src.new {F H : Hp} {p q : Addr} {o : HO} (h : Src F H p) (hq : H q = none) : Src (upd F q o) (upd H q o) p := by
  obtain ⟨a, b, x, y, e, z⟩ := h
  have n : p ≠ q := ne_of_none e hq
  exact ⟨(Stp.new (S := S0) a hq).fh, by rw [upd_ne n]; exact b, x, y, by rw [upd_ne n]; exact e, z⟩
/-- a cell beside it is written -/
theorem Src.upd {F H : Hp} {p q : Addr} {o : HO} (h : Src F H p) (n : q ≠ p) (fq : F q = none) : Src F (upd H q o) p := by
  obtain ⟨a, b, x, y, e, z⟩ := h
  exact ⟨(Stp.wr (S := S1 q) a rfl fq).fh, b, x, y, by rw [upd_ne n.symm]; exact e, z⟩
theorem Src.dom {F H : Hp} {p : Addr} (h : Src F H p) : ∃ o, H p = some o := let ⟨_, _, x, y, e, _⟩ := h; ⟨_, e⟩
theorem Src.frz {F H : Hp} {p d : Addr} {o : HO} (h : Src F H p) (n : p ≠ d) (fh : Same (L2.upd F d o) H) : Src (L2.upd F d o) H p := by
  obtain ⟨a, b, x, y, e, z⟩ := h
  exact ⟨fh, by rw [upd_ne n]; exact b, x, y, e, z⟩
theorem Src.ne {F H : Hp} {p d : Addr} (h : Src F H p) (hd : H d = none) : p ≠ d := by
  obtain ⟨o, e⟩ := h.dom
  exact ne_of_none e hd
/-- behind a draw: what stands beside the cell is as it was -/
def Drawn (p : Addr) (F H H' : Hp) : Prop := Src F H' p ∧ Stp (S1 p) F H F H'
section SecFmt
open PySem PySem.Spec PyProof.Rows L2
/-- the binary digits of a number that is not negative, as a text -/
def binText (n : Nat) : Str := ⟨((Nat.toDigits 2 n).map Char.toNat).toArray⟩
def fB : Builtin.Float.FormatSpec := { align := 62, type := some 98 }
theorem parseB : Builtin.Float.parseFormatSpec (Str.ofString "b").cps.toList "int" 62 = Except.ok fB := by rfl
section
variable {prog : Program} {w : World} {A : Around} {E : Value → Shared → Prop} {s : Shared}
theorem ite_no {β : Type} {M : Model} {c : Prop} [Decidable c] {x y : Sem β} {Q : β → Shared → Prop} (h : ¬ c) (q : wpAny M A y Q E s) : wpAny M A (if c then x else y) Q E s := by rw [if_neg h]; exact q
theorem field_b {a : Int} {t : Tok} {Q : Value → Shared → Prop} (h0 : 0 ≤ a) (hl : (Nat.toDigits 2 a.natAbs).length ≤ 100000)
    (h : Q (.str (binText a.natAbs) (s.toks + 1)) { s with toks := s.toks + 1 + 1 }) : wpAny (model prog w) A (formatField (.int a t) (Str.ofString "b")) Q E s := by
  show wpAny _ _ (holding [.int a t] (pyFormat (.int a t) (Str.ofString "b"))) Q E s
  refine wpAny_holding ?_
  unfold pyFormat
  refine wpAny_bind (wpAny_mkStr ?_ (by decide))
  refine wpAny_bind (m := callSpecial? (.int a t) (Str.ofString "__format__") [.str (Str.ofString "b") s.toks])
    (wpAny_callSpecial?_slot (name := Str.ofString "__format__") (typeIs_int _ a t) slot_int_format ?_)
  refine wpAny_call (codeAny_call_builtin slot_int_format.plain entry_int_format
    (slot_int_format.check _ _ _ _ _ _ _ _ (typeIs_int _ a t) (args_int_format _ _) ?_))
  have hne : ((Str.ofString "b").length == 0) = false := by decide
  have hasc : (((Str.ofString "b").cps.toList.drop 1).any (· ≥ 128) || ((Str.ofString "b").cps.getD 0 0 ≥ 128 && !([60, 62, 61, 94] : List Nat).contains ((Str.ofString "b").cps.getD 1 0))) = false := by decide
  unfold Builtin.«int.__format__»
  simp only [selfAndOne, noKeywords, Builtin.Int.intOfSelf, asInt?, asStr?, List.isEmpty_nil, if_true, pure_bind, bind_pure, bind_assoc, hne, hasc, Bool.false_eq_true,
    if_false, show (Value.str (Str.ofString "b") s.toks == Value.none) = false from rfl]
  refine wpAny_bind (wpAny_typeNameOf (T := "str") (typeIs_str _ _ _) (by decide) fun _ => ?_)
  first | refine wpAny_bind (wpAny_typeNameOfCut_int ?_) | refine wpAny_bind (wpAny_typeNameOf_int ?_)
  simp only [parseB, fB]
  rw [if_pos (by decide)]
  simp only [Option.getD_some]
  show wpAny _ _ (retStr _) _ _ _
  unfold retStr
  have key : ∀ (x : Str), x = binText a.natAbs → x.length ≤ sizeLine ∧ Q (.str x (s.toks + 1)) { s with toks := s.toks + 1 + 1 } := fun x e => by
    subst e
    exact ⟨Nat.le_trans (by simpa [binText, Str.length] using hl) (by decide), h⟩
  refine wpAny_bind (wpAny_mkStr (wpAny_pure ?_) (key _ ?hs2).1)
  case hs2 =>
    conv => lhs; whnf
    have hneg : decide (a < 0) = false := by simpa using h0
    simp [hneg, binText]
  dsimp only
  refine wpAny_bind (wpAny_isInstance (typeIs_str _ _ _) isSubtype_str_str (wpAny_pure ?_))
  refine (key _ ?_).2
  conv => lhs; whnf
  have hneg : decide (a < 0) = false := by simpa using h0
  simp [hneg, binText]
end
section
variable {X : Cx}
/-- {n:b} -/
def tFmtB (te : TE) : TE := fun σ H Q => te σ H fun x H1 => ∃ i : Int, x = .int i ∧ 0 ≤ i ∧ (Nat.toDigits 2 i.natAbs).length ≤ 100000 ∧ Q (.str (binText i.natAbs)) H1
theorem pe_fmtB {e : Expr} {te : TE} {k : Nat} {p1 p2 pos : Pos} (he : PE X e te) : PE X (.FormattedValue e (-1) (some (.JoinedStr [.Constant (.str "b") k p1] p2)) pos) (tFmtB te) := by
  refine ⟨fun pins s σ H Q I h => ?_⟩
  refine wpAny_FormattedValue_spec (thn (he.run pins s σ H _ I h) fun v s1 hv => ?_)
  obtain ⟨x, H1, I1, r1, i, rfl, h0, hl, q⟩ := hv
  obtain ⟨t, rfl⟩ := r1
  have hp : PE X (.JoinedStr [.Constant (.str "b") k p1] p2) (tC (.str "b")) := pe_joined1 pe_str
  refine thn (hp.run pins s1 σ H1 (fun v H' => v = .str "b" ∧ H' = H1) I1 ⟨rfl, rfl⟩) fun r s2 hr => ?_
  obtain ⟨y, H2, I2, r2, rfl, rfl⟩ := hr
  obtain ⟨u, rfl⟩ := r2
  exact ⟨_, _, rfl, field_b h0 hl ⟨.str (binText i.natAbs), H2, I2.tok _, ⟨_, rfl⟩, q⟩⟩
end
end SecFmt
section SecBits
open PySem PySem.Spec PyProof.Rows L2
/-! ### binary digits -/
/-- the w lowest binary digits of n, the highest first -/
def fixL : Nat → Nat → List Int
  | 0, _ => []
  | w + 1, n => fixL w (n / 2) ++ [((n % 2 : Nat) : Int)]
theorem fixL_len : ∀ (w n : Nat), (fixL w n).length = w
  | 0, _ => rfl
  | w + 1, n => by rw [fixL, List.length_append, fixL_len w]; rfl
def isBit (b : Int) : Prop := b = 0 ∨ b = 1
theorem fixL_bit : ∀ (w n : Nat), ∀ b ∈ fixL w n, isBit b
  | 0, _, b, h => by simp [fixL] at h
  | w + 1, n, b, h => by
    rw [fixL, List.mem_append] at h
    rcases h with h | h
    · exact fixL_bit w _ b h
    · have : b = ((n % 2 : Nat) : Int) := by simpa using h
      have h2 : n % 2 < 2 := Nat.mod_lt _ (by decide)
      unfold isBit; omega
def code (b : Int) : Nat := (48 + b).toNat
def digs (n : Nat) : List Nat := (Nat.toDigits 2 n).map Char.toNat
theorem digs_small {n : Nat} (h : n < 2) : digs n = [48 + n] := by
  unfold digs; rw [Nat.toDigits_of_lt_base h]
  rcases (by omega : n = 0 ∨ n = 1) with rfl | rfl <;> rfl
theorem digs_step {n : Nat} (h : 2 ≤ n) : digs n = digs (n / 2) ++ [48 + n % 2] := by
  unfold digs; rw [Nat.toDigits_of_base_le (by decide) h, List.map_append]
  congr 1
  rcases (by omega : n % 2 = 0 ∨ n % 2 = 1) with e | e <;> rw [e] <;> rfl
theorem fixL_zero : ∀ w, (fixL w 0).map code = List.replicate w 48
  | 0 => rfl
  | w + 1 => by rw [fixL, List.map_append, fixL_zero w, List.replicate_succ']; rfl
theorem digs_fix : ∀ (w n : Nat), n < 2 ^ (w + 1) → (digs n).length ≤ w + 1 ∧ List.replicate (w + 1 - (digs n).length) 48 ++ digs n = (fixL (w + 1) n).map code
  | 0, n, h => by
    have h2 : n < 2 := by simpa using h
    rw [digs_small h2]
    rcases (by omega : n = 0 ∨ n = 1) with rfl | rfl <;> exact ⟨by decide, by decide⟩
  | w + 1, n, h => by
    by_cases h2 : n < 2
    · rw [digs_small h2]
      refine ⟨by simp, ?_⟩
      rw [fixL, List.map_append, show n / 2 = 0 by omega, fixL_zero]
      show List.replicate (w + 1) 48 ++ [48 + n] = _
      congr 1
      rcases (by omega : n = 0 ∨ n = 1) with rfl | rfl <;> rfl
    · have hp : n / 2 < 2 ^ (w + 1) := by rw [Nat.pow_succ] at h; omega
      obtain ⟨h3, h4⟩ := digs_fix w (n / 2) hp
      rw [digs_step (by omega), fixL, List.map_append, ← h4]
      refine ⟨by simp; omega, ?_⟩
      rw [List.length_append, List.length_singleton, show w + 1 + 1 - ((digs (n / 2)).length + 1) = w + 1 - (digs (n / 2)).length by omega, List.append_assoc]
      congr 2
theorem digs_head {n : Nat} : (digs n)[0]? = some 48 ∨ (digs n)[0]? = some 49 := by
  induction n using Nat.strongRecOn with
  | ind n ih =>
    by_cases h : n < 2
    · rw [digs_small h]; rcases (by omega : n = 0 ∨ n = 1) with rfl | rfl <;> simp
    · rw [digs_step (by omega)]
      have := ih (n / 2) (by omega)
      have hl : 0 < (digs (n / 2)).length := by
        cases e : digs (n / 2) with
        | nil => rw [e] at this; simp at this
        | cons => simp
      rw [List.getElem?_append_left hl]; exact this
theorem zfill_bin {w n : Nat} (h : n < 2 ^ (w + 1)) : (Txt.zfill (binText n) ((w + 1 : Nat) : Int)).cps.toList = (fixL (w + 1) n).map code := by
  obtain ⟨h1, h2⟩ := digs_fix w n h
  have hl : (binText n).length = (digs n).length := by simp [binText, Str.length, digs]
  have hc : (binText n).cps.toList = digs n := by simp [binText, digs]
  unfold Txt.zfill
  by_cases q : (((w + 1 : Nat) : Int) ≤ ((binText n).length : Int))
  · rw [if_pos q, hc, ← h2, show w + 1 - (digs n).length = 0 by omega]; rfl
  · rw [if_neg q]
    have e0 : ∀ x, (binText n).cps[0]? = some x → x ≠ 43 ∧ x ≠ 45 := fun x hx => by
      have : (digs n)[0]? = some x := by rw [← hc]; simpa using hx
      rcases digs_head (n := n) with z | z <;> rw [z] at this <;> cases this <;> decide
    unfold zfilled
    split
    · rename_i hx; exact absurd rfl (e0 _ hx).1
    · rename_i hx; exact absurd rfl (e0 _ hx).2
    · show (Array.replicate _ 48 ++ (binText n).cps ++ Array.replicate 0 48).toList = _
      rw [← h2]
      simp [hc, hl]
theorem bits_le {w n : Nat} (h : n < 2 ^ (w + 1)) : (Nat.toDigits 2 n).length ≤ w + 1 := by
  have := (digs_fix w n h).1
  simpa [digs] using this
theorem intBits_le {n : Int} {w : Nat} (h0 : 0 ≤ n) : (Builtin.Int.intBits n : Nat) ≤ w ↔ n.toNat < 2 ^ w := by
  unfold Builtin.Int.intBits
  by_cases h : n = 0
  · subst h; simp [Nat.two_pow_pos]
  · rw [if_neg (by simpa using h)]
    have e : n.natAbs = n.toNat := by omega
    rw [e, ← Nat.log2_lt (by omega : n.toNat ≠ 0)]
    omega
/-- the number of a list of digits, the highest first -/
def numL (bs : List Int) : Int := bs.foldl (fun a b => 2 * a + b) 0
theorem numL_snoc (bs : List Int) (b : Int) : numL (bs ++ [b]) = 2 * numL bs + b := by simp [numL, List.foldl_append]
theorem num_fixL : ∀ (w n : Nat), n < 2 ^ w → numL (fixL w n) = (n : Int)
  | 0, n, h => by
    have : n = 0 := by simpa using h
    subst this; rfl
  | w + 1, n, h => by
    rw [fixL, numL_snoc, num_fixL w (n / 2) (by rw [Nat.pow_succ] at h; omega)]
    omega
theorem code_bit {b : Int} (h : isBit b) : code b = 48 ∨ code b = 49 := by rcases h with rfl | rfl <;> decide
theorem text_bit {b : Int} (h : isBit b) : PySem.intText? ⟨#[code b]⟩ = some b := by rcases h with rfl | rfl <;> decide +kernel
/-- the digit at a place -/
theorem fixL_at : ∀ (w n i : Nat), i < w → (fixL w n)[i]? = some ((n / 2 ^ (w - 1 - i) % 2 : Nat) : Int)
  | 0, _, _, h => by omega
  | w + 1, n, i, h => by
    rw [fixL]
    by_cases hi : i < w
    · rw [List.getElem?_append_left (by rw [fixL_len]; exact hi), fixL_at w (n / 2) i hi]
      congr 3
      rw [Nat.div_div_eq_div_mul, show w + 1 - 1 - i = (w - 1 - i) + 1 by omega, Nat.pow_succ, Nat.mul_comm]
    · have : i = w := by omega
      subst this
      rw [List.getElem?_append_right (by rw [fixL_len]; exact Nat.le_refl _), fixL_len]
      simp
end SecBits
theorem s_fmtB {σ : L2.St} {H : Hp} {Q : VK} {te : TE} (h : te σ H fun x H1 => ∃ i : Int, x = .int i ∧ 0 ≤ i ∧ (Nat.toDigits 2 i.natAbs).length ≤ 100000 ∧ Q (.str (binText i.natAbs)) H1) : tFmtB te σ H Q := h
section ExcS
open PyProof.Rows
/-! ### own exception classes -/
def exA (mg : Str → Option Value) (x : Str) : Addr := match mg x with
  | some (.ref a) => a
  | _ => 0
theorem exA_of {mg : Str → Option Value} {x : Str} {a : Addr} (h : mg x = some (.ref a)) : exA mg x = a := by unfold exA; rw [h]
structure ExF (K : PySem.W.Frag) (mg : Str → Option Value) (nm : Str) : Prop where
  g : mg nm = some (.ref (exA mg nm))
  x : PySem.W.excIn K (exA mg nm) [.type "ValueError", .type "Exception", .type "BaseException", .type "object"] "ValueError.__new__" = true
  k : PySem.W.keepIn K (.ref (exA mg nm)) = true
  b : PySem.W.subIn K (.ref (exA mg nm)) (.type "BaseException") = some true
  t : PySem.W.typeIn K (.ref (exA mg nm)) = some (.type "type")
  c : ExcC K (exA mg nm)
theorem ExF.mk' {K : PySem.W.Frag} {mg : Str → Option Value} {nm : Str} {C : Addr} (g : mg nm = some (.ref C))
    (x : PySem.W.excIn K C [.type "ValueError", .type "Exception", .type "BaseException", .type "object"] "ValueError.__new__" = true) (k : PySem.W.keepIn K (.ref C) = true)
    (b : PySem.W.subIn K (.ref C) (.type "BaseException") = some true) (t : PySem.W.typeIn K (.ref C) = some (.type "type"))
    (hg : PySem.W.findIn K (.ref C) "__getattribute__" = some (some (.builtin "BaseException.__getattribute__")))
    (hk : PySem.W.findIn K (.ref C) "__getattr__" = some none)
    (hd : PySem.W.hasDictIn K C = true)
    (ha : PySem.W.findIn K (.ref C) "__class__" = some (some (.builtin "object.__class__")))
    (hn : PySem.W.specialIn K (.builtin "object.__class__") "__get__" = some (some (.builtin "getset_descriptor.__get__")))
    (ht : PySem.W.takesIn K (.builtin "object.__class__") = some true)
    (hm : PySem.W.mroIn K C (.type "object") = some true) : ExF K mg nm := by
  have e := exA_of g
  exact ⟨by rw [e]; exact g, by rw [e]; exact x, by rw [e]; exact k, by rw [e]; exact b, by rw [e]; exact t, by rw [e]; exact ⟨hg, hk, b, hd, ha, hn, ht, hm⟩⟩
theorem ExF.exm {K : PySem.W.Frag} {mg : Str → Option Value} {nm : Str} (h : ExF K mg nm) {cls : Value} {b : Bool} (s : PySem.W.subIn K cls (.ref (exA mg nm)) = some b) : PySem.W.exmOne K cls (.ref (exA mg nm)) = some b := PySem.W.exm_ref h.b h.c.hd h.t s
section
variable {X : Cx} {C : Addr} {bmB : List Value} {B newId initId : String}
open PySem.W in
/-- isinstance against an own class, by the order of the classes -/
theorem kit_own {K : Frag} {a C : Addr} {b : Bool} (hd : hasDictIn K C = true) (ht : typeIn K (.ref C) = some (.type "type")) (h : subIn K (.ref a) (.ref C) = some b) (s : subIn K (.ref a) (.ref a) = some true) : kitOne K (.ref a) (.ref C) = some b := by
  obtain ⟨cd, hc, _⟩ := any_some hd
  have e2 : ((clsIn K C).isSome && typeIn K (.ref C) == some (.type "type")) = true := by rw [hc, ht]; rfl
  unfold kitOne
  by_cases q : a = C
  · subst q
    rw [if_pos (by simp), ← h, s]
  · rw [if_neg (by simpa using q)]
    show (if ((clsIn K C).isSome && typeIn K (.ref C) == some (.type "type")) = true then subIn K (.ref a) (.ref C) else none) = some b
    rw [if_pos e2, h]
open PySem.W in
theorem kit_val {K : Frag} {a : Addr} (h : subIn K (.ref a) (.type "ValueError") = some true) : kitOne K (.ref a) (.type "ValueError") = some true := by
  unfold kitOne
  rw [if_neg (by simp)]
  show (if kitMeta "ValueError" = true then subIn K (.ref a) (.type "ValueError") else none) = some true
  rw [if_pos (by decide +kernel), h]
/-- X() -/
theorem pmk_own0 {x : Str} {p pos : Pos} (F : ExcBaseFacts B newId initId bmB) (q : PySem.W.excIn X.K C bmB newId = true) (gC : X.mg x = some (.ref C)) (kC : PySem.W.keepIn X.K (.ref C) = true) (r : Raises X (.ref C)) (hg : Gl X x)
    (hdb : (x == ("__debug__" : Str)) = false := by decide) : PMk X (.Call (.Name x p) [] [] pos) (fun _ H Q => Q (.ref C) none H) := by
  intro pins s σ H Q I h
  refine wpAny_Call_Name_kw (ld_glob I hg gC ?_ hdb)
  refine PySem.W.callWith_K0 I.kIn kC ?_
  obtain ⟨bm, N, nm, qn, bs, hdct, sn, sub, ab, col, dd, k0, k1, k2, k3, k5, mN, hC, hN, hni, T⟩ := exc_obj I.kIn q
  exact wpAny_call_exc_subT F T hC hN hni (fun h' e hm => mk_of I hm r h (I.hok.gone hm.new)) (Nat.zero_le _)
end
/-- isinstance(e, c) in an except suite: e's class is known in the reading -/
def rIsX (K : PySem.W.Frag) (a : Addr) (cls : Value) (d : Option Addr) : List V → Hp → VK → Prop := fun xs H Q => ∃ D, cls = .ref D ∧ d = none ∧ ExcC K D ∧ rIsE K D a xs H Q
theorem call_isX {X : Cx} (K : PySem.W.Frag) (eK : X.K = K) {a : Addr} {cls : Value} {d : Option Addr} {oe : Obj} {pn : List (Addr × Obj)} (hz : Zc cls d oe) (hf : ∃ vs, oe.data = .fields vs) : CallR (X.suite a ((a, oe) :: pn)) (.builtin "isinstance") (rIsX K a cls d) := by
  subst eK
  intro pins s σ H vs us Q I r h
  obtain ⟨D, rfl, rfl, C, q⟩ := h
  exact call_isE C hz hf pins s σ H vs us Q I r q
theorem s_isX {K : PySem.W.Frag} {a D C : Addr} {b : Bool} {H : Hp} {Q : VK} (c : ExcC K D) (k : PySem.W.kitOne K (.ref D) (.ref C) = some b) (q : Q (.bl b) H) : rIsX K a (.ref D) none [.ref a, .ref C] H Q :=
  ⟨D, rfl, rfl, c, .ref C, .ref C, b, rfl, fun _ r => r, k, q⟩
theorem s_isXt {K : PySem.W.Frag} {a D : Addr} {n : String} {b : Bool} {H : Hp} {Q : VK} (c : ExcC K D) (k : PySem.W.kitOne K (.ref D) (.type n) = some b) (q : Q (.bl b) H) : rIsX K a (.ref D) none [.ref a, .ty n] H Q :=
  ⟨D, rfl, rfl, c, .ty n, .type n, b, rfl, fun _ r => r, k, q⟩
theorem s_callS {sp : Sp} {E : L2.St → XK} {t : TA} {σ : L2.St} {H : Hp} {Q : VK} (h : t σ H fun vs H1 => sp vs H1 Q (E σ)) : tCallS sp E t σ H Q := h
theorem cx_none {P : Program} {w : World} {H : Hp} {s : Shared} {e : Value} {s' : Shared} (h : L2.CX P w [] H s (fun _ _ _ => False) e s') : False := by
  obtain ⟨_, _, _, _, _, _, _, _, _, _, _, _, z⟩ := h
  exact z
end ExcS
/-! ### several clauses behind a try, each with a name or without -/
section HandsS
open PySem.Spec PyProof.Rows
def goneD (i : Nat) (D : Ends) : Ends := ⟨fun σ H => D.nx (σ.set i none) H, D.rt, fun σ H => D.bk (σ.set i none) H, fun σ H => D.ct (σ.set i none) H⟩
/-- what the clauses want of an error: the first whose class fits takes it -/
def wH (K : PySem.W.Frag) (out : WX) (D : Ends) : List (Value × Option Nat × (Addr → Value → Option Addr → TS)) → WX
  | [] => out
  | (c, none, ts) :: r => fun cls d σ H => ∃ b, PySem.W.exmOne K cls c = some b ∧ (b = true → ∀ a, H a = none → ts a cls d D σ H) ∧ (b = false → wH K out D r cls d σ H)
  | (c, some i, ts) :: r => fun cls d σ H => ∃ b, PySem.W.exmOne K cls c = some b ∧ (b = true → ∀ a, H a = none → ts a cls d (goneD i D) (σ.set i (some (.ref a))) H) ∧ (b = false → wH K out D r cls d σ H)
inductive HOks (X : Cx) : List ExceptHandler → List (Value × Option Nat × (Addr → Value → Option Addr → TS)) → Prop
  | nil : HOks X [] []
  | anon {x : Str} {c : Value} {ts : Addr → Value → Option Addr → TS} {b₀ : Stmt} {suite : List Stmt} {np pos : Pos} {hds : List ExceptHandler} {l : List (Value × Option Nat × (Addr → Value → Option Addr → TS))} (hc : Names X x c)
      (hsu : ∀ (a : Addr) (oe : Obj) (cls : Value) (d : Option Addr) (pn : List (Addr × Obj)), Zc cls d oe → (∃ vs, oe.data = .fields vs) → PSs (X.suite a ((a, oe) :: pn)) (b₀ :: suite) (ts a cls d)) (r : HOks X hds l) :
      HOks X (.ExceptHandler (some (.Name x np)) none (b₀ :: suite) pos :: hds) ((c, none, ts) :: l)
  | named {x n : Str} {i : Nat} {c : Value} {ts : Addr → Value → Option Addr → TS} {b₀ : Stmt} {suite : List Stmt} {np pos : Pos} {hds : List ExceptHandler} {l : List (Value × Option Nat × (Addr → Value → Option Addr → TS))}
      (hi : X.N[i]? = some n) (hln : X.env.kindOf n = some .local) (hc : Names X x c)
      (hsu : ∀ (a : Addr) (oe : Obj) (cls : Value) (d : Option Addr) (pn : List (Addr × Obj)), Zc cls d oe → (∃ vs, oe.data = .fields vs) → PSs (X.suite a ((a, oe) :: pn)) (b₀ :: suite) (ts a cls d)) (r : HOks X hds l) :
      HOks X (.ExceptHandler (some (.Name x np)) (some n) (b₀ :: suite) pos :: hds) ((c, some i, ts) :: l)
/-- an error that has come down to the frame of a try -/
structure Down (X : Cx) (pins : List (Addr × Obj)) (σ : L2.St) (H : Hp) (cls : Value) (d : Option Addr) (a : Addr) (B : Heap) (sI s : Shared) : Prop where
  at0 : L2.Inv X pins σ H sI
  nb : ∀ (b : Addr) (o : Obj), sI.heap.get? b = some o → ¬ b ∈ frs X.stack → B.get? b = some o
  up : sI.heap.UpToSlots s.heap
  os : s.os = sI.os
  ag : AllBare s.gens
  na : H a = none
  fl : HandSPX.FlyingZ B (X.env :: X.outer) a (Zc cls d) s.heap
variable {X : Cx} {pins : List (Addr × Obj)} {σ : L2.St} {H : Hp} {cls : Value} {d : Option Addr} {a : Addr} {B : Heap} {sI s : Shared}
theorem Down.inv (D : Down X pins σ H cls d a B sI s) : L2.Inv X pins σ H s := D.at0.landed D.nb D.fl.1 D.up D.os D.ag
theorem Down.obj (D : Down X pins σ H cls d a B sI s) (hf : X.env.frame = some X.env.locals) :
    ∃ oe vs, s.heap.get? a = some oe ∧ Zc cls d oe ∧ oe.data = Data.fields vs ∧ L2.Inv (X.suite a ((a, oe) :: (X.pn ++ pins))) [] σ H s := by
  obtain ⟨oe, vs, e, z, dd⟩ := D.fl.there
  have off : a ∉ frs (X.env :: X.outer) := fun hm => by
    obtain ⟨_, o, e', no⟩ := D.fl.2.2.1.mem hm
    rw [e] at e'
    exact no vs ((Option.some.inj e') ▸ dd)
  have n1 : a ≠ X.env.locals := fun z => off (List.mem_filterMap.mpr ⟨X.env, by simp, by rw [hf, z]⟩)
  have n2 : a ∉ X.fs := fun hm => off (by
    obtain ⟨v, hv, q⟩ := List.mem_filterMap.mp hm
    exact List.mem_filterMap.mpr ⟨v, by simp [hv], q⟩)
  exact ⟨oe, vs, e, z, dd, D.inv.suite e dd D.na n1 n2⟩
theorem Down.next (D : Down X pins σ H cls d a B sI s) {h' : Heap} (f : HandSPX.FlyingZ B (X.env :: X.outer) a (Zc cls d) h') (u : s.heap.UpToSlots h') : Down X pins σ H cls d a B sI { s with heap := h' } :=
  ⟨D.at0, D.nb, D.up.trans u, D.os, D.ag, D.na, f⟩
theorem Down.hands (D : Down X pins σ H cls d a B sI s) {W : WX} {E : Ends} (hs : X.stack = X.env :: X.outer) (hf : X.env.frame = some X.env.locals) (hN : X.N.Nodup) (tk : Takes X W) (ok : X.Ok) {hds : List ExceptHandler} {l : List (Value × Option Nat × (Addr → Value → Option Addr → TS))}
    (hh : HOks X hds l) (w : wH X.K W E l cls d σ H) : wpAny (model X.prog X.w) X.A (handleBy (.ref a) X.env hds) (SP X pins E) X.xe s := by
  induction hh with
  | nil =>
    refine wpAny_handleBy_nil ?_
    obtain ⟨_, _, _, oe, vs, T, oT, ts, he, _, hd, h1, _⟩ := id D.fl
    unfold PySem.passOn
    refine wpAny_bind (wpAny_field he hd h1 ?_)
    rw [if_neg (show ¬ ((Value.ref T == Value.none) = true) from by simp)]
    have out : wpAny (model X.prog X.w) X.A (setFlight (.ref a) X.env.frame) (fun _ s4 => wpAny (model X.prog X.w) X.A (throw (.ref a) : Sem Flow) (SP X pins E) X.xe s4) X.xe s := by
      rw [hf]
      exact HandSPX.setFlight_upZ D.fl fun h4 hh4 u4 => wpAny_throw (tk _ _ ⟨a, B, sI, pins, σ, H, cls, d, rfl, D.at0, D.nb, D.up.trans u4, .inr (.inr (by rw [hs]; exact hh4)), D.na, D.os, D.ag, w⟩)
    first
      | exact wpAny_bind (wpAny_pure (wpAny_bind out))
      | exact wpAny_bind out
  | @anon x c ts b₀ suite np pos hds l hc hsu r ih =>
    obtain ⟨b, e1, yes, no⟩ := w
    obtain ⟨oe, vs, he, hz, _, S⟩ := D.obj hf
    refine wpAny_handleBy_cons (codeAny_handlers_test ?_) (by intro q; cases q)
    have ty : PySem.W.Looks (model X.prog X.w) s.heap (typeOf (.ref a)) cls := fun _ _ _ _ k q => wpAny_typeOf_ref (k _ _ he) (by rw [hz.1]; exact q)
    have fits := PySem.W.exm_one (M := model X.prog X.w) D.inv.kIn ty e1
    have name : ∀ {Q E : Value → Shared → Prop}, Q c s → wpAny (model X.prog X.w) (X.A.mark (some (.ref a))) (eval (.Name x np) X.env) Q E s := fun {Q E} q => by
      obtain ⟨g1, g2, g3 | ⟨g3, g4, g5⟩⟩ := hc
      · exact ld_glob (X := X.suite a ((a, oe) :: (X.pn ++ pins))) S g1 g3 q g2
      · exact ld_blt (X := X.suite a ((a, oe) :: (X.pn ++ pins))) S g1 g3 g4 q g5 g2
    refine name (fits.here ?_)
    cases b with
    | false => exact ih (no rfl)
    | true =>
      refine codeAny_handlers_suite (HandSPX.lands_againZ D.fl fun h4 f4 u4 => ?_)
      obtain ⟨oe4, vs4, _, z4, d4, S4⟩ := (D.next f4 u4).obj hf
      refine wpAny_mono ((hsu a oe4 cls d (X.pn ++ pins) z4 ⟨_, d4⟩).run [] _ σ H E S4 (yes rfl a D.na)) (fun f s6 q => ?_) fun _ _ z => z.elim
      cases f with
      | ret u =>
        obtain ⟨v6, σ6, H6, S6, r6, q6⟩ := q
        exact ⟨v6, σ6, H6, S6.unsuite ok, r6, q6⟩
      | _ =>
        obtain ⟨σ6, H6, S6, q6⟩ := q
        exact ⟨σ6, H6, S6.unsuite ok, q6⟩
  | @named x n i c ts b₀ suite np pos hds l hi hln hc hsu r ih =>
    obtain ⟨b, e1, yes, no⟩ := w
    obtain ⟨oe, vs, he, hz, _, S⟩ := D.obj hf
    refine wpAny_handleBy_cons (codeAny_handlers_test ?_) (by intro q; cases q)
    have ty : PySem.W.Looks (model X.prog X.w) s.heap (typeOf (.ref a)) cls := fun _ _ _ _ k q => wpAny_typeOf_ref (k _ _ he) (by rw [hz.1]; exact q)
    have fits := PySem.W.exm_one (M := model X.prog X.w) D.inv.kIn ty e1
    have name : ∀ {Q E : Value → Shared → Prop}, Q c s → wpAny (model X.prog X.w) (X.A.mark (some (.ref a))) (eval (.Name x np) X.env) Q E s := fun {Q E} q => by
      obtain ⟨g1, g2, g3 | ⟨g3, g4, g5⟩⟩ := hc
      · exact ld_glob (X := X.suite a ((a, oe) :: (X.pn ++ pins))) S g1 g3 q g2
      · exact ld_blt (X := X.suite a ((a, oe) :: (X.pn ++ pins))) S g1 g3 g4 q g5 g2
    refine name (fits.here ?_)
    cases b with
    | false => exact ih (no rfl)
    | true =>
      refine codeAny_handlers_suite_as (HandSPX.lands_againZ D.fl fun h4 f4 u4 => ?_)
      obtain ⟨oe4, vs4, _, z4, d4, S4⟩ := (D.next f4 u4).obj hf
      refine store_ok (X := X.suite a ((a, oe4) :: (X.pn ++ pins))) (v := .ref a) S4 hN hi (.inl hln) rfl (fun s5 S5 => ?_) (.inr hln)
      refine wpAny_mono ((hsu a oe4 cls d (X.pn ++ pins) z4 ⟨_, d4⟩).run [] s5 _ H (goneD i E) S5 (yes rfl a D.na)) (fun f s6 q => ?_) fun _ _ z => z.elim
      cases f with
      | ret u =>
        obtain ⟨v6, σ6, H6, S6, r6, q6⟩ := q
        exact gone_ok (S6.unsuite ok) hN hi hln fun s7 J7 => ⟨_, _, _, J7, r6, q6⟩
      | _ =>
        obtain ⟨σ6, H6, S6, q6⟩ := q
        exact gone_ok (S6.unsuite ok) hN hi hln fun s7 J7 => ⟨_, _, J7, q6⟩
/-- try: body, then clauses with names or without -/
theorem ps_tryH {body : List Stmt} {h₀ : ExceptHandler} {hds : List ExceptHandler} {l : List (Value × Option Nat × (Addr → Value → Option Addr → TS))} {W : WX} {tb : WX → TS} {pos : Pos} (hs : X.stack = X.env :: X.outer) (hf : X.env.frame = some X.env.locals) (hN : X.N.Nodup) (tk : Takes X W)
    (hb : ∀ (V : WX) (pn : List (Addr × Obj)) (xe : Value → Shared → Prop), Takes (X.tr pn xe) V → PassesOwn (model X.prog X.w) X.A X.env xe → PSs (X.tr pn xe) body (tb V))
    (hh : HOks X (h₀ :: hds) l) : PS X (.Try body (h₀ :: hds) [] [] pos) (fun D σ H => tb (wH X.K W D l) D σ H) := by
  refine ⟨fun pins s σ H D I h => ?_⟩
  have ok := I.ok
  refine wpAny_Try_except (wpAny_mono ((hb (wH X.K W D l) (X.pn ++ pins) _ (fun u s' xx => ?_) PassesOwn.looking).run [] s σ H D (I.toTry _) h) (fun f s1 q => ?_) fun e s1 he => he)
  · obtain ⟨a, B, sI, pins', σ', H', cls, d, rfl, J', nb, up, sky, na, os, ag, w⟩ := xx
    have sky' : Sky B (X.env :: X.outer) a (Zc cls d) X.env.locals s'.heap := by rw [← hs]; exact sky
    exact Sky.land Zc.steady (by rw [ok.frames, hs]) hf sky' fun h3 f3 u3 => Down.hands (s := { s' with heap := h3 }) ⟨J'.ofTry ok, nb, up.trans u3, os, ag, na, f3⟩ hs hf hN tk ok hh w
  · cases f with
    | next =>
      obtain ⟨σ', H', J', q⟩ := q
      exact wpAny_execs_nil ⟨σ', H', J'.ofTry ok, q⟩
    | ret u =>
      obtain ⟨v, σ', H', J', r, q⟩ := q
      exact ⟨v, σ', H', J'.ofTry ok, r, q⟩
    | _ =>
      obtain ⟨σ', H', J', q⟩ := q
      exact ⟨σ', H', J'.ofTry ok, q⟩
end HandsS
section LamS
open PySem.Spec PyProof.Rows
/-! ### lambdas without parameters, handed to a def that calls them -/
abbrev Tbs := List (Addr × Str)
/-- the name that the lambdas of a def bear -/
def qLam (x : Str) : Str := x ++ ".<locals>." ++ "<lambda>"
/-- no table of code objects stands still -/
def NoT (F : Hp) : Prop := ∀ b ps, F b ≠ some (.tbl ps)
def cutT (H : Hp) : Hp := fun b => match H b with
  | some (.tbl _) => none
  | o => o
theorem cutT_at {H : Hp} {b : Addr} {o : HO} (h : H b = some o) (n : ∀ ps, o ≠ .tbl ps) : cutT H b = some o := by
  unfold cutT
  rw [h]
  cases o <;> first | rfl | exact absurd rfl (n _)
theorem cutT_same (H : Hp) : Same (cutT H) H := fun b o h => by
  unfold cutT at h
  split at h
  · cases h
  · exact h
theorem cutT_no (H : Hp) : NoT (cutT H) := fun b ps h => by
  have e := cutT_same H b _ h
  unfold cutT at h
  rw [e] at h
  cases h
theorem NoT.ext {F H H' : Hp} (n : NoT F) (s : Same F H) (e : LamX.ExtN H H') : Same F H' := fun b o h => e b o (s b o h) fun ps z => n b ps (by rw [h, z])
theorem Src.cut {F H : Hp} {p : Addr} (h : Src F H p) : Src (cutT F) H p := h.weak (cutT_same F)
theorem Src.ext {F H H' : Hp} {p : Addr} (h : Src F H p) (n : NoT F) (e : LamX.ExtN H H') : Src F H' p := by
  obtain ⟨a, b, x, y, h1, z⟩ := h
  exact ⟨n.ext a e, b, x, y, e _ _ h1 (fun ps z => by cases z), z⟩
theorem SqL.cut {K : PySem.W.Frag} {H : Hp} {a : Addr} {xs : List V} (h : SqL K H a xs) : SqL K (cutT H) a xs := by
  rcases h with (h | ⟨o, h⟩) | h
  · exact .inl (.inl (cutT_at h fun ps z => by cases z))
  · exact .inl (.inr ⟨o, cutT_at h fun ps z => by cases z⟩)
  · exact .inr h
theorem tabs_stp {T : Tbs} {F H F' H' : Hp} {p : Addr} (t : LamX.Tabs T H) (st : Stp (S1 p) F H F' H') (hp : ∃ xs, H p = some (.lst xs)) : LamX.Tabs T H' := fun q hq => by
  obtain ⟨xs, hp⟩ := hp
  obtain ⟨ps, h1, h2, h3⟩ := t q hq
  refine ⟨ps, st.keep _ _ (fun z => ?_) h1, h2, fun pos cv hc => ?_⟩
  · rw [show q.1 = p from z, hp] at h1; cases h1
  · obtain ⟨c, e1, e2⟩ := h3 pos cv hc
    refine ⟨c, e1, st.keep _ _ (fun z => ?_) e2⟩
    rw [show c = p from z, hp] at e2
    unfold LamX.CodeO at e2
    cases e2
theorem Src.tabs {T : Tbs} {F H F' H' : Hp} {p : Addr} (h : Src F H p) (t : LamX.Tabs T H) (st : Stp (S1 p) F H F' H') : LamX.Tabs T H' := by
  obtain ⟨_, _, x, y, e, _⟩ := h
  exact tabs_stp t st ⟨_, e⟩
theorem tabs_nil {T : Tbs} {H : Hp} (h : ∀ t ∈ T, H t.1 = some (.tbl #[])) : LamX.Tabs T H := fun t ht => .nil (h t ht)
/-- the length of the slots is known -/
theorem takes_len {X : Cx} {W : WX} (tk : Takes X W) : Takes X (fun cls d σ H => σ.length = X.N.length → W cls d σ H) := fun u s' ⟨a, B, sI, pins, σ, H, cls, d, e, I, nb, up, sky, na, os, ag, w⟩ =>
  tk u s' ⟨a, B, sI, pins, σ, H, cls, d, e, I, nb, up, sky, na, os, ag, w I.len⟩
theorem pss_ex {X : Cx} {b : List Stmt} {ι : Type} {C : ι → Prop} {t : ι → TS} (h : ∀ i, C i → PSs X b (t i)) : PSs X b (fun D σ H => ∃ i, C i ∧ t i D σ H) := ⟨fun pins s σ H D I ⟨i, c, q⟩ => (h i c).run pins s σ H D I q⟩
theorem pe_weak {X : Cx} {e : Expr} {t : TE} (h : PE X e t) : PE X e (fun σ H Q => ∃ R : VK, t σ H R ∧ ∀ v H1, R v H1 → Q v H1) :=
  ⟨fun pins s σ H Q I ⟨R, q, m⟩ => wpAny_mono (h.run pins s σ H R I q) (fun u s' ⟨v, H1, I1, r, q1⟩ => ⟨v, H1, I1, r, m v H1 q1⟩) fun _ _ z => z⟩
theorem NoT.new {F : Hp} {p : Addr} {o : HO} (n : NoT F) (h : ∀ ps, o ≠ .tbl ps) : NoT (upd F p o) := fun b ps z => by
  by_cases e : b = p
  · subst e; rw [upd_same] at z; exact h ps (Option.some.inj z)
  · rw [upd_ne e] at z; exact n b ps z
/-- a def whose code object is known -/
theorem okXc {P : Program} {w : World} {K : PySem.W.Frag} {mg : Str → Option Value} {base : Heap} {x qual : Str} {st : Stmt} {f : Addr} {fd : FuncData} {N ps : List Str} {k : Nat} {sp : Sp} (F : Fun K x qual st f fd) (S : FnScope N ps (defScope st)) (len : ∀ vs H Q E, sp vs H Q E → vs.length = ps.length)
    (hb : ∀ (A : Around) (outer : List Env) (s : Shared) (H : Hp) (vs : List V) (Q : VK) (E : XK), Room k (A.deeper (envOfC qual (defScope st) s.heap.objs.size f fd.code)) → sp vs H Q E →
      ∃ t, PSs (cxOf (L2.CX P w) P w K mg base N qual (defScope st) f fd.code A outer s H E) (defBody st) t ∧ t { nx := fun _ H' => Q .non H', rt := Q } (L2.start N vs) H) : FnOk P w K mg base (L2.CX P w) (k + 1) f fd ps sp := by
  obtain ⟨oc, od, kV, doc, pm, an, cdv, ct, osl, e, lk, hcd⟩ := F.ex
  subst e
  exact fn_of lk hcd S len hb
/-- a def that gets a lambda -/
structure LamG (K : PySem.W.Frag) (mg : Str → Option Value) (nm a : Str) (st : Stmt) (g : Addr) (fd : FuncData) (N : List Str) : Prop where
  F : Fun K nm nm st g fd
  m : mg nm = some (.ref g)
  b : L2.Binds K fd [a] []
  S : FnScope N [a] (defScope st)
def OkG (K : PySem.W.Frag) (mg : Str → Option Value) (nm a : Str) (st : Stmt) (N : List Str) : Prop := ∃ g fd, LamG K mg nm a st g fd N
theorem pe_lam {X : Cx} {T : Tbs} {TT : (XK → Hp → VK → Prop) → Hp → VK → Prop} {nm a : Str} {st : Stmt} {g : Addr} {fd : FuncData} {N : List Str} {c P : Addr} {k : Nat} {params : Arguments} {body : Expr} {scope : Scope} {t : XK → TE} {p lpos pos : Pos}
    (L : LamG X.K X.mg nm a st g fd N) (hg : Gl X nm) (hN : N[0]? = some a) (hv : Vis (defScope st) a) (hG : LamX.GivesTo X N nm (defScope st) g fd.code (defBody st) a (X.env.qual ++ "<lambda>") TT)
    (TB : LamX.TabB X.base X.mg c P) (hc : X.env.code = .ref c) (hm : (P, X.env.qual ++ "<lambda>") ∈ T) (hu : ∀ p ∈ T, p.1 = P → p.2 = X.env.qual ++ "<lambda>") (hr : Room (k + 2) X.A) (hs : LamX.LamS X.env.scope scope) (hdef : defaultsOf params X.env = ([], []))
    (hbind : ∀ (q : Str) (cl : List (Str × Addr)) (pm cv ctv : Value), bindArgs (PySem.W.kla_fn "<lambda>" q params body scope cl pm cv ctv) ⟨[], []⟩ = pure [])
    (hbody : ∀ (A : Around) (outer : List Env) (s : Shared) (H : Hp) (E : XK) (f c' : Addr), Room k (A.deeper (LamX.lamEnv X scope s.heap.objs.size f c')) → PE (LamX.lamCx X A outer s H E scope f c') body (t E))
    (d1 : (nm == ("__debug__" : Str)) = false := by decide) (d2 : (a == ("__debug__" : Str)) = false := by decide) (d3 : (a == ("__classdict__" : Str)) = false := by decide) :
    PE X (.Call (.Name nm p) [.Lambda params body scope lpos] [] pos) (LamX.tLam T TT t) := by
  obtain ⟨oc, od, kV, doc, pm, an, cdv, ct, osl, e, lk, hcd⟩ := L.F.ex
  have b := L.b
  subst e
  exact LamX.pe_lamcall hg L.m L.F.kp lk hcd b L.S hN hv hG TB hc hm hu hr hs hdef hbind hbody d1 d2 d3
theorem s_lam {T : Tbs} {TT : (XK → Hp → VK → Prop) → Hp → VK → Prop} {t : XK → TE} {σ : L2.St} {H : Hp} {Q : VK} (hT : LamX.Tabs T H) (h : ∀ H1, LamX.ExtN H H1 → LamX.Tabs T H1 → TT (fun E H' Q' => t E σ H' Q') H1 Q) : LamX.tLam T TT t σ H Q := ⟨hT, h⟩
end LamS
section SecCrc
open PySem PySem.Spec PyProof.Rows L2
/-! ### the check: linear -/
def stp (h b : Nat) : Nat := (2 * h % 256) ^^^ (if (h / 128) ^^^ b = 1 then 7 else 0)
theorem stp_lt (h b : Nat) : stp h b < 256 := by
  unfold stp
  refine Nat.xor_lt_two_pow (n := 8) (Nat.mod_lt _ (by decide)) ?_
  split <;> decide
theorem xor_div_128 (a b : Nat) : (a ^^^ b) / 128 = a / 128 ^^^ b / 128 := by
  have := Nat.shiftRight_xor_distrib (a := a) (b := b) (i := 7)
  rw [Nat.shiftRight_eq_div_pow, Nat.shiftRight_eq_div_pow, Nat.shiftRight_eq_div_pow] at this
  exact this
theorem xor_two (a b : Nat) : 2 * (a ^^^ b) = 2 * a ^^^ 2 * b := by
  have := Nat.shiftLeft_xor_distrib (a := a) (b := b) (i := 1)
  rw [Nat.shiftLeft_eq, Nat.shiftLeft_eq, Nat.shiftLeft_eq] at this
  rw [Nat.mul_comm 2, Nat.mul_comm 2, Nat.mul_comm 2]
  exact this
theorem xor4 (a b c d : Nat) : (a ^^^ b) ^^^ (c ^^^ d) = (a ^^^ c) ^^^ (b ^^^ d) := by
  rw [Nat.xor_assoc, Nat.xor_assoc, ← Nat.xor_assoc b c d, Nat.xor_comm b c, Nat.xor_assoc c b d]
theorem stp_lin {h k b c : Nat} (hh : h < 256) (hk : k < 256) (hb : b < 2) (hc : c < 2) : stp (h ^^^ k) (b ^^^ c) = stp h b ^^^ stp k c := by
  unfold stp
  have h1 : h / 128 < 2 := by omega
  have k1 : k / 128 < 2 := by omega
  have key : ∀ x y : Nat, x < 2 → y < 2 → (if (x ^^^ y) ^^^ (b ^^^ c) = 1 then 7 else 0) = (if x ^^^ b = 1 then 7 else 0) ^^^ (if y ^^^ c = 1 then 7 else 0) := ?_
  · rw [xor_two, xor_div_128, show (256 : Nat) = 2 ^ 8 from rfl, Nat.xor_mod_two_pow, key _ _ h1 k1, xor4]
  intro x y hx hy
  rcases (by omega : x = 0 ∨ x = 1) with rfl | rfl <;> rcases (by omega : y = 0 ∨ y = 1) with rfl | rfl <;> rcases (by omega : b = 0 ∨ b = 1) with rfl | rfl <;> rcases (by omega : c = 0 ∨ c = 1) with rfl | rfl <;> rfl
def cf (h : Nat) (bs : List Int) : Nat := bs.foldl (fun h b => stp h b.toNat) h
def chk (bs : List Int) : Nat := cf 0 bs
theorem cf_lt : ∀ (bs : List Int) (h : Nat), h < 256 → cf h bs < 256
  | [], _, hh => hh
  | b :: bs, h, _ => cf_lt bs _ (stp_lt _ _)
theorem chk_lt (bs : List Int) : chk bs < 256 := cf_lt bs 0 (by decide)
theorem cf_snoc (bs : List Int) (h : Nat) (b : Int) : cf h (bs ++ [b]) = stp (cf h bs) b.toNat := by simp [cf, List.foldl_append]
/-- some bits turned: those at the places E, counted from i -/
def flipL (E : Nat → Bool) : Nat → List Int → List Int
  | _, [] => []
  | i, x :: xs => (if E i then 1 - x else x) :: flipL E (i + 1) xs
theorem flipL_len (E : Nat → Bool) : ∀ (xs : List Int) (i : Nat), (flipL E i xs).length = xs.length
  | [], _ => rfl
  | x :: xs, i => by simp [flipL, flipL_len E xs]
theorem flipL_append (E : Nat → Bool) : ∀ (xs ys : List Int) (i : Nat), flipL E i (xs ++ ys) = flipL E i xs ++ flipL E (i + xs.length) ys
  | [], ys, i => by simp [flipL]
  | x :: xs, ys, i => by simp [flipL, flipL_append E xs ys (i + 1), Nat.add_comm, Nat.add_left_comm]
theorem flipL_at (E : Nat → Bool) : ∀ (xs : List Int) (i j : Nat), (flipL E i xs)[j]? = (xs[j]?).map fun x => if E (i + j) then 1 - x else x
  | [], _, _ => by simp [flipL]
  | x :: xs, i, 0 => by simp [flipL]
  | x :: xs, i, j + 1 => by simp [flipL, flipL_at E xs (i + 1) j, Nat.add_comm, Nat.add_left_comm]
def cfE (E : Nat → Bool) : Nat → Nat → Nat → Nat
  | d, _, 0 => d
  | d, i, n + 1 => cfE E (stp d (E i).toNat) (i + 1) n
theorem toNat_lt (b : Bool) : b.toNat < 2 := by cases b <;> decide
theorem bit_lt {x : Int} (h : isBit x) : x.toNat < 2 := by rcases h with rfl | rfl <;> decide
theorem flip_bit {x : Int} (h : isBit x) (e : Bool) : (if e then 1 - x else x).toNat = x.toNat ^^^ e.toNat := by rcases h with rfl | rfl <;> cases e <;> rfl
theorem cf_flip (E : Nat → Bool) : ∀ (xs : List Int) (h d i : Nat), h < 256 → d < 256 → (∀ x ∈ xs, isBit x) → cf (h ^^^ d) (flipL E i xs) = cf h xs ^^^ cfE E d i xs.length
  | [], _, _, _, _, _, _ => rfl
  | x :: xs, h, d, i, hh, hd, hx => by
    have e : cf (h ^^^ d) (flipL E i (x :: xs)) = cf (stp (h ^^^ d) (if E i then 1 - x else x).toNat) (flipL E (i + 1) xs) := rfl
    rw [e, flip_bit (hx x (by simp)), stp_lin hh hd (bit_lt (hx x (by simp))) (toNat_lt _), cf_flip E xs _ _ _ (stp_lt _ _) (stp_lt _ _) fun y hy => hx y (by simp [hy])]
    rfl
def maskN (E : Nat → Bool) (i : Nat) : Nat → Nat
  | 0 => 0
  | w + 1 => 2 * maskN E i w + (E (i + w)).toNat
theorem xor_half (c m e : Nat) (he : e < 2) : (c ^^^ (2 * m + e)) / 2 = c / 2 ^^^ m ∧ (c ^^^ (2 * m + e)) % 2 = c % 2 ^^^ e := by
  have h1 := Nat.shiftRight_xor_distrib (a := c) (b := 2 * m + e) (i := 1)
  rw [Nat.shiftRight_eq_div_pow, Nat.shiftRight_eq_div_pow, Nat.shiftRight_eq_div_pow] at h1
  have h2 := Nat.xor_mod_two_pow (a := c) (b := 2 * m + e) (n := 1)
  refine ⟨by rw [show (2 : Nat) = 2 ^ 1 from rfl, h1]; congr 1; omega, by rw [show (2 : Nat) = 2 ^ 1 from rfl, h2]; congr 1; omega⟩
theorem fixL_len' : ∀ (w n : Nat), (fixL w n).length = w
  | 0, _ => rfl
  | w + 1, n => by rw [fixL, List.length_append, fixL_len' w]; rfl
theorem flip_fix (E : Nat → Bool) (i : Nat) : ∀ (w c : Nat), flipL E i (fixL w c) = fixL w (c ^^^ maskN E i w)
  | 0, _ => rfl
  | w + 1, c => by
    obtain ⟨h1, h2⟩ := xor_half c (maskN E i w) (E (i + w)).toNat (toNat_lt _)
    rw [fixL, flipL_append, flip_fix E i w, fixL, maskN, h1, h2, fixL_len']
    congr 1
    have : c % 2 < 2 := Nat.mod_lt _ (by decide)
    show [if E (i + w) then 1 - ((c % 2 : Nat) : Int) else ((c % 2 : Nat) : Int)] = _
    rcases (by omega : c % 2 = 0 ∨ c % 2 = 1) with e | e <;> rw [e] <;> cases E (i + w) <;> rfl
/-- what turned bits leave -/
def synd (E : Nat → Bool) : Nat := cfE E 0 0 48 ^^^ maskN E 48 8
abbrev xorE (E G : Nat → Bool) : Nat → Bool := fun i => E i ^^ G i
theorem toNat_xor (a b : Bool) : (a ^^ b).toNat = a.toNat ^^^ b.toNat := by cases a <;> cases b <;> rfl
theorem cfE_lin (E G : Nat → Bool) : ∀ (n d e i : Nat), d < 256 → e < 256 → cfE (xorE E G) (d ^^^ e) i n = cfE E d i n ^^^ cfE G e i n
  | 0, _, _, _, _, _ => rfl
  | n + 1, d, e, i, hd, he => by
    show cfE (xorE E G) (stp (d ^^^ e) (E i ^^ G i).toNat) (i + 1) n = _
    rw [toNat_xor, stp_lin hd he (toNat_lt _) (toNat_lt _), cfE_lin E G n _ _ _ (stp_lt _ _) (stp_lt _ _)]
    rfl
theorem maskN_lin (E G : Nat → Bool) (i : Nat) : ∀ w, maskN (xorE E G) i w = maskN E i w ^^^ maskN G i w
  | 0 => by simp [maskN]
  | w + 1 => by
    show 2 * maskN (xorE E G) i w + (E (i + w) ^^ G (i + w)).toNat = _
    rw [maskN_lin E G i w, toNat_xor]
    obtain ⟨h1, h2⟩ := xor_half (2 * maskN E i w + (E (i + w)).toNat) (maskN G i w) (G (i + w)).toNat (toNat_lt _)
    have t1 := toNat_lt (E (i + w)); have t2 := toNat_lt (G (i + w))
    rw [show (2 * maskN E i w + (E (i + w)).toNat) / 2 = maskN E i w by omega] at h1
    rw [show (2 * maskN E i w + (E (i + w)).toNat) % 2 = (E (i + w)).toNat by omega] at h2
    have l : maskN E i (w + 1) = 2 * maskN E i w + (E (i + w)).toNat := rfl
    have l' : maskN G i (w + 1) = 2 * maskN G i w + (G (i + w)).toNat := rfl
    rw [l, l']
    omega
theorem synd_lin (E G : Nat → Bool) : synd (xorE E G) = synd E ^^^ synd G := by
  unfold synd
  rw [← xor4, ← maskN_lin, ← cfE_lin E G 48 0 0 0 (by decide) (by decide)]
  rfl
theorem cfE_congr {E G : Nat → Bool} : ∀ (n d i : Nat), (∀ j, j < i + n → E j = G j) → cfE E d i n = cfE G d i n
  | 0, _, _, _ => rfl
  | n + 1, d, i, h => by
    show cfE E (stp d (E i).toNat) (i + 1) n = cfE G (stp d (G i).toNat) (i + 1) n
    rw [h i (by omega), cfE_congr n _ _ fun j hj => h j (by omega)]
theorem maskN_congr {E G : Nat → Bool} (i : Nat) : ∀ w, (∀ j, j < i + w → E j = G j) → maskN E i w = maskN G i w
  | 0, _ => rfl
  | w + 1, h => by
    show 2 * maskN E i w + (E (i + w)).toNat = 2 * maskN G i w + (G (i + w)).toNat
    rw [maskN_congr i w fun j hj => h j (by omega), h (i + w) (by omega)]
theorem synd_congr {E G : Nat → Bool} (h : ∀ j, j < 56 → E j = G j) : synd E = synd G := by
  unfold synd
  rw [cfE_congr 48 0 0 fun j hj => h j (by omega), maskN_congr 48 8 fun j hj => h j (by omega)]
def one (x : Nat) : Nat → Bool := fun i => decide (i = x)
theorem xor_zero' {a b : Nat} (e : a ^^^ b = 0) : a = b := by
  have := congrArg (fun z => z ^^^ b) e
  simpa [Nat.xor_assoc] using this
def tb : List Nat := [236, 118, 59, 158, 79, 164, 82, 41, 151, 200, 100, 50, 25, 143, 196, 98, 49, 155, 206, 103, 176, 88, 44, 22, 11, 134, 67, 162, 81, 171, 214, 107, 182, 91, 174, 87, 168, 84, 42, 21, 137, 199, 224, 112, 56, 28, 14, 7, 128, 64, 32, 16, 8, 4, 2, 1]
def T (x : Nat) : Nat := synd (one x)
theorem T_eq : ∀ x < 56, T x = tb.getD x 0 := by decide +kernel
theorem synd_zero : synd (fun _ => false) = 0 := by decide +kernel
theorem tb_ne0 : ∀ x < 56, tb.getD x 0 ≠ 0 := by decide +kernel
theorem tb_ne2 : ∀ x < 56, ∀ y < x, tb.getD x 0 ≠ tb.getD y 0 := by decide +kernel
theorem tb_ne3 : ∀ x < 56, ∀ y < x, (tb.getD x 0 ^^^ tb.getD y 0) ∉ tb := by decide +kernel
def Y (b m : Nat) : Nat := (List.range 8).foldl (fun s j => s ^^^ (if m / 2 ^ j % 2 = 1 then tb.getD (b + j) 0 else 0)) 0
theorem Y_ne0 : ∀ b < 49, ∀ m < 256, m ≠ 0 → Y b m ≠ 0 := by decide +kernel
theorem T_ne0 {x : Nat} (h : x < 56) : T x ≠ 0 := by rw [T_eq x h]; exact tb_ne0 x h
theorem T_ne2 {x y : Nat} (hx : x < 56) (hy : y < 56) (h : x ≠ y) : T x ^^^ T y ≠ 0 := by
  rw [T_eq x hx, T_eq y hy]
  intro e
  have e := xor_zero' e
  rcases Nat.lt_or_gt_of_ne h with z | z
  · exact tb_ne2 y hy x z e.symm
  · exact tb_ne2 x hx y z e
theorem T_ne3 {x y z : Nat} (hx : x < 56) (hy : y < 56) (hz : z < 56) (h : x ≠ y) : T x ^^^ T y ^^^ T z ≠ 0 := by
  rw [T_eq x hx, T_eq y hy, T_eq z hz]
  intro e
  have e := xor_zero' e
  have m : tb.getD z 0 ∈ tb := by
    have hl : z < tb.length := hz
    rw [List.getD_eq_getElem?_getD, List.getElem?_eq_getElem hl]; exact List.getElem_mem hl
  rcases Nat.lt_or_gt_of_ne h with w | w
  · rw [Nat.xor_comm] at e; exact tb_ne3 y hy x w (e ▸ m)
  · exact tb_ne3 x hx y w (e ▸ m)
def ind (L : List Nat) : Nat → Bool := fun i => decide (i ∈ L)
theorem ind1 (x : Nat) : synd (ind [x]) = T x := synd_congr fun j _ => by simp [ind, one]
theorem ind2 {x y : Nat} (h : x ≠ y) : synd (ind [x, y]) = T x ^^^ T y := by
  rw [show T x ^^^ T y = synd (xorE (one x) (one y)) from (synd_lin _ _).symm]
  refine synd_congr fun j _ => ?_
  by_cases a : j = x
  · subst a; simp [ind, one, h]
  · by_cases b : j = y
    · subst b; simp [ind, one, h.symm]
    · simp [ind, one, a, b]
theorem ind3 {x y z : Nat} (h : x ≠ y) (h1 : z ≠ x) (h2 : z ≠ y) : synd (ind [x, y, z]) = T x ^^^ T y ^^^ T z := by
  rw [show T x ^^^ T y ^^^ T z = synd (xorE (xorE (one x) (one y)) (one z)) by rw [synd_lin, synd_lin]; rfl]
  refine synd_congr fun j _ => ?_
  by_cases a : j = x
  · subst a; simp [ind, one, h, h1.symm]
  · by_cases b : j = y
    · subst b; simp [ind, one, h.symm, h2.symm]
    · by_cases c : j = z
      · subst c; simp [ind, one, h1, h2]
      · simp [ind, one, a, b, c]
theorem ind_congr {L M : List Nat} (h : ∀ i, i ∈ L ↔ i ∈ M) : synd (ind L) = synd (ind M) := synd_congr fun j _ => by simp [ind, h j]
theorem synd_small {L : List Nat} (h0 : L ≠ []) (h3 : L.length ≤ 3) (hL : ∀ x ∈ L, x < 56) : synd (ind L) ≠ 0 := by
  match L, h0, h3, hL with
  | [x], _, _, hL => rw [ind1]; exact T_ne0 (hL x (by simp))
  | [x, y], _, _, hL =>
    by_cases h : x = y
    · subst h; rw [ind_congr (M := [x]) (by simp), ind1]; exact T_ne0 (hL x (by simp))
    · rw [ind2 h]; exact T_ne2 (hL x (by simp)) (hL y (by simp)) h
  | [x, y, z], _, _, hL =>
    have hx := hL x (by simp); have hy := hL y (by simp); have hz := hL z (by simp)
    by_cases h : x = y
    · subst h
      by_cases h1 : x = z
      · subst h1; rw [ind_congr (M := [x]) (by simp), ind1]; exact T_ne0 hx
      · rw [ind_congr (M := [x, z]) (by simp), ind2 h1]; exact T_ne2 hx hz h1
    · by_cases h1 : z = x
      · subst h1; rw [ind_congr (M := [z, y]) (by intro i; simp; omega), ind2 h]; exact T_ne2 hx hy h
      · by_cases h2 : z = y
        · subst h2; rw [ind_congr (M := [x, z]) (by intro i; simp), ind2 h]; exact T_ne2 hx hy h
        · rw [ind3 h h1 h2]; exact T_ne3 hx hy hz h
  | _ :: _ :: _ :: _ :: _, _, h, _ => simp at h
def part (E : Nat → Bool) (b n : Nat) : Nat → Bool := fun i => E i && decide (b ≤ i ∧ i < b + n)
def XE (E : Nat → Bool) (b : Nat) : Nat → Nat
  | 0 => 0
  | n + 1 => XE E b n ^^^ (if E (b + n) then T (b + n) else 0)
theorem synd_part (E : Nat → Bool) (b : Nat) : ∀ n, synd (part E b n) = XE E b n
  | 0 => by
    rw [show synd (part E b 0) = synd (fun _ => false) from synd_congr fun j _ => by simp [part]]
    exact synd_zero
  | n + 1 => by
    rw [XE, ← synd_part E b n]
    by_cases e : E (b + n) = true
    · rw [if_pos e, show synd (part E b n) ^^^ T (b + n) = synd (xorE (part E b n) (one (b + n))) from (synd_lin _ _).symm]
      refine synd_congr fun j _ => ?_
      by_cases h : j = b + n
      · subst h; simp [part, one, e]
      · have e1 : one (b + n) j = false := by simp [one, h]
        show part E b (n + 1) j = (part E b n j ^^ one (b + n) j)
        rw [e1, Bool.xor_false]
        unfold part
        congr 1
        simp only [decide_eq_decide]
        omega
    · have e : E (b + n) = false := by simpa using e
      rw [if_neg (by simp [e]), Nat.xor_zero]
      refine synd_congr fun j _ => ?_
      by_cases h : j = b + n
      · subst h; simp [part, e]
      · unfold part
        congr 1
        simp only [decide_eq_decide]
        omega
def mOf (E : Nat → Bool) (b : Nat) : Nat := (E b).toNat + 2 * (E (b + 1)).toNat + 4 * (E (b + 2)).toNat + 8 * (E (b + 3)).toNat + 16 * (E (b + 4)).toNat + 32 * (E (b + 5)).toNat + 64 * (E (b + 6)).toNat + 128 * (E (b + 7)).toNat
theorem tn (b : Bool) : (b.toNat = 1 ∧ b = true) ∨ (b.toNat = 0 ∧ b = false) := by cases b <;> simp
theorem mOf_bit (E : Nat → Bool) (b : Nat) : ∀ j < 8, (mOf E b / 2 ^ j % 2 = 1) ↔ E (b + j) = true := by
  have h0 := tn (E b); have h1 := tn (E (b + 1)); have h2 := tn (E (b + 2)); have h3 := tn (E (b + 3)); have h4 := tn (E (b + 4)); have h5 := tn (E (b + 5)); have h6 := tn (E (b + 6)); have h7 := tn (E (b + 7))
  intro j hj
  unfold mOf
  rcases (by omega : j = 0 ∨ j = 1 ∨ j = 2 ∨ j = 3 ∨ j = 4 ∨ j = 5 ∨ j = 6 ∨ j = 7) with rfl | rfl | rfl | rfl | rfl | rfl | rfl | rfl
  · rcases h0 with ⟨a, c⟩ | ⟨a, c⟩ <;> simp only [Nat.add_zero, a, c] <;> simp <;> omega
  · rcases h1 with ⟨a, c⟩ | ⟨a, c⟩ <;> simp only [a, c] <;> simp <;> omega
  · rcases h2 with ⟨a, c⟩ | ⟨a, c⟩ <;> simp only [a, c] <;> simp <;> omega
  · rcases h3 with ⟨a, c⟩ | ⟨a, c⟩ <;> simp only [a, c] <;> simp <;> omega
  · rcases h4 with ⟨a, c⟩ | ⟨a, c⟩ <;> simp only [a, c] <;> simp <;> omega
  · rcases h5 with ⟨a, c⟩ | ⟨a, c⟩ <;> simp only [a, c] <;> simp <;> omega
  · rcases h6 with ⟨a, c⟩ | ⟨a, c⟩ <;> simp only [a, c] <;> simp <;> omega
  · rcases h7 with ⟨a, c⟩ | ⟨a, c⟩ <;> simp only [a, c] <;> simp <;> omega
theorem XE_Y (E : Nat → Bool) {b : Nat} (hb : b < 49) : XE E b 8 = Y b (mOf E b) := by
  have h := mOf_bit E b
  have t : ∀ j < 8, (if E (b + j) = true then T (b + j) else 0) = (if mOf E b / 2 ^ j % 2 = 1 then tb.getD (b + j) 0 else 0) := fun j hj => by
    by_cases e : E (b + j) = true
    · rw [if_pos e, if_pos ((h j hj).mpr e), T_eq _ (by omega)]
    · rw [if_neg e, if_neg fun z => e ((h j hj).mp z)]
  have y : Y b (mOf E b) = (((((((0 ^^^ (if mOf E b / 2 ^ 0 % 2 = 1 then tb.getD (b + 0) 0 else 0)) ^^^ (if mOf E b / 2 ^ 1 % 2 = 1 then tb.getD (b + 1) 0 else 0)) ^^^ (if mOf E b / 2 ^ 2 % 2 = 1 then tb.getD (b + 2) 0 else 0)) ^^^ (if mOf E b / 2 ^ 3 % 2 = 1 then tb.getD (b + 3) 0 else 0)) ^^^ (if mOf E b / 2 ^ 4 % 2 = 1 then tb.getD (b + 4) 0 else 0)) ^^^ (if mOf E b / 2 ^ 5 % 2 = 1 then tb.getD (b + 5) 0 else 0)) ^^^ (if mOf E b / 2 ^ 6 % 2 = 1 then tb.getD (b + 6) 0 else 0)) ^^^ (if mOf E b / 2 ^ 7 % 2 = 1 then tb.getD (b + 7) 0 else 0) := rfl
  rw [y, ← t 0 (by decide), ← t 1 (by decide), ← t 2 (by decide), ← t 3 (by decide), ← t 4 (by decide), ← t 5 (by decide), ← t 6 (by decide), ← t 7 (by decide)]
  rfl
theorem synd_burst {L : List Nat} {b : Nat} (h0 : L ≠ []) (hb : b < 49) (hL : ∀ x ∈ L, b ≤ x ∧ x < b + 8) : synd (ind L) ≠ 0 := by
  rw [show synd (ind L) = synd (part (ind L) b 8) from synd_congr fun j _ => by
    unfold part ind
    by_cases h : j ∈ L
    · simp [h, hL j h]
    · simp [h], synd_part, XE_Y _ hb]
  have hm : mOf (ind L) b < 256 := by
    have h0 := toNat_lt (ind L b); have h1 := toNat_lt (ind L (b + 1)); have h2 := toNat_lt (ind L (b + 2)); have h3 := toNat_lt (ind L (b + 3)); have h4 := toNat_lt (ind L (b + 4)); have h5 := toNat_lt (ind L (b + 5)); have h6 := toNat_lt (ind L (b + 6)); have h7 := toNat_lt (ind L (b + 7))
    unfold mOf; omega
  refine Y_ne0 b hb _ hm fun e => ?_
  match L, h0, hL with
  | x :: r, _, hL =>
    have hx := hL x (by simp)
    have q := (mOf_bit (ind (x :: r)) b (x - b) (by omega)).mpr (by rw [show b + (x - b) = x by omega]; simp [ind])
    rw [e] at q
    simp at q
/-- a cell of which some bits are turned has a wrong check -/
theorem turned_bad {load : List Int} {E : Nat → Bool} (hl : load.length = 48) (hb : ∀ x ∈ load, isBit x) (h : synd E ≠ 0) :
    (flipL E 0 (load ++ fixL 8 (chk load))).drop 48 ≠ fixL 8 (chk ((flipL E 0 (load ++ fixL 8 (chk load))).take 48)) := by
  rw [flipL_append, hl, Nat.zero_add, List.drop_left' (by rw [flipL_len, hl]), List.take_left' (by rw [flipL_len, hl]), flip_fix]
  have e1 : chk (flipL E 0 load) = chk load ^^^ cfE E 0 0 48 := by
    have := cf_flip E load 0 0 0 (by decide) (by decide) hb
    rw [hl] at this
    exact this
  rw [e1]
  intro e
  have l1 : maskN E 48 8 < 256 := by
    have h0 := toNat_lt (E (48 + 0)); have h1 := toNat_lt (E (48 + 1)); have h2 := toNat_lt (E (48 + 2)); have h3 := toNat_lt (E (48 + 3)); have h4 := toNat_lt (E (48 + 4)); have h5 := toNat_lt (E (48 + 5)); have h6 := toNat_lt (E (48 + 6)); have h7 := toNat_lt (E (48 + 7))
    simp only [maskN]; omega
  have l2 : cfE E 0 0 48 < 256 := by
    have : ∀ n d i, d < 256 → cfE E d i n < 256 := by
      intro n
      induction n with
      | zero => intro d i h; exact h
      | succ n ih => intro d i _; exact ih _ _ (stp_lt _ _)
    exact this 48 0 0 (by decide)
  have e2 := congrArg numL e
  rw [num_fixL 8 _ (Nat.xor_lt_two_pow (n := 8) (chk_lt _) l1), num_fixL 8 _ (Nat.xor_lt_two_pow (n := 8) (chk_lt _) l2)] at e2
  have e3 : chk load ^^^ maskN E 48 8 = chk load ^^^ cfE E 0 0 48 := Int.ofNat.inj e2
  have e4 : maskN E 48 8 = cfE E 0 0 48 := by
    have := congrArg (fun z => chk load ^^^ z) e3
    simpa [← Nat.xor_assoc] using this
  exact h (by unfold synd; rw [e4, Nat.xor_self])
end SecCrc
/-! ### codes of counts -/
theorem pad_ok {i : Int} (h : 0 ≤ i ∧ i ≤ 10000) : PadOk i = true := by
  unfold PadOk fitsSsize Builtin.Str.tooLong
  have e : sizeLine = 16777216 := by decide
  simp [e]
  omega
/-- how many binary digits a number has -/
def blen (n : Nat) : Nat := if n = 0 then 0 else n.log2 + 1
theorem blen_lt (n : Nat) : n < 2 ^ blen n := by
  unfold blen
  split
  · subst_vars; decide
  · exact (Nat.log2_lt (by assumption)).mp (Nat.lt_succ_self _)
theorem intBits_blen {n : Int} (h : 0 ≤ n) : (Builtin.Int.intBits n : Nat) = blen n.toNat := by
  unfold Builtin.Int.intBits blen
  by_cases e : n = 0
  · subst e; rfl
  · rw [if_neg (by simpa using e), if_neg (by omega), show n.natAbs = n.toNat by omega]
theorem blen_le {n k : Nat} (h : n < 2 ^ k) : blen n ≤ k := by
  unfold blen
  split
  · omega
  · exact (Nat.log2_lt (by assumption)).mpr h
theorem blen_pos {n : Nat} (h : 0 < n) : 0 < blen n := by unfold blen; rw [if_neg (by omega)]; omega
/-- the code of a count -/
def countL (n : Nat) : List Int := List.replicate (blen (n + 1) - 1) 0 ++ fixL (blen (n + 1)) (n + 1)
def sgn (n : Int) : Nat := if 0 ≤ n then (2 * n).toNat else (-2 * n - 1).toNat
theorem fixL_head {w n : Nat} (h1 : 2 ^ w ≤ n) (h2 : n < 2 ^ (w + 1)) : ∃ t, fixL (w + 1) n = 1 :: t ∧ t.length = w := by
  have e := fixL_at (w + 1) n 0 (by omega)
  have d : n / 2 ^ w = 1 := by
    have a : 1 ≤ n / 2 ^ w := (Nat.le_div_iff_mul_le (Nat.two_pow_pos w)).mpr (by omega)
    have b : n / 2 ^ w < 2 := (Nat.div_lt_iff_lt_mul (Nat.two_pow_pos w)).mpr (by rw [Nat.pow_succ] at h2; omega)
    omega
  rw [show w + 1 - 1 - 0 = w by omega, d] at e
  have hl := fixL_len (w + 1) n
  match h : fixL (w + 1) n with
  | [] => rw [h] at hl; simp at hl
  | x :: t =>
    rw [h] at e hl
    have : x = 1 := by simpa using e
    subst this
    exact ⟨t, rfl, by simpa using hl⟩
/-- the code of a count: so many noughts, a one, as many digits -/
theorem countL_form (c : Nat) (hc : c ≤ 2199023255550) : ∃ (z : Nat) (t : List Int), countL c = List.replicate z 0 ++ 1 :: t ∧ t.length = z ∧ z ≤ 40 ∧ numL (1 :: t) = (c : Int) + 1 ∧ ∀ x ∈ t, isBit x := by
  have hp := blen_pos (n := c + 1) (by omega)
  have h2 := blen_lt (c + 1)
  have h1 : 2 ^ (blen (c + 1) - 1) ≤ c + 1 := by
    unfold blen
    rw [if_neg (by omega)]
    exact (Nat.le_log2 (by omega)).mp (Nat.le_refl _)
  have h3 : blen (c + 1) ≤ 41 := blen_le (by omega)
  have e : blen (c + 1) = (blen (c + 1) - 1) + 1 := by omega
  rw [e] at h2
  obtain ⟨t, ht, hl⟩ := fixL_head h1 h2
  refine ⟨blen (c + 1) - 1, t, ?_, hl, by omega, ?_, fun x hx => ?_⟩
  · unfold countL
    rw [← ht, ← e]
  · rw [← ht, num_fixL _ _ h2]; simp
  · exact fixL_bit _ _ x (ht ▸ List.mem_cons_of_mem _ hx)
theorem countL_len (c : Nat) (hc : c ≤ 2199023255550) : (countL c).length ≤ 81 := by
  obtain ⟨z, t, h, hl, hz, _⟩ := countL_form c hc
  rw [h]; simp [hl]; omega
theorem countL_bit (c : Nat) (hc : c ≤ 2199023255550) : ∀ x ∈ countL c, isBit x := by
  obtain ⟨z, t, h, hl, hz, _, hb⟩ := countL_form c hc
  intro x hx
  rw [h] at hx
  rcases List.mem_append.mp hx with hx | hx
  · exact .inl (List.eq_of_mem_replicate hx)
  · rcases List.mem_cons.mp hx with rfl | hx
    · exact .inr rfl
    · exact hb x hx
/-- noughts from a place on -/
def zrun (bs : List Int) (a : Nat) : Nat := ((bs.drop a).takeWhile fun b => decide (b = 0)).length
/-- what is read at a place -/
def cntR (bs : List Int) (a : Nat) : List V :=
  if 40 < min 41 (zrun bs a) then [.str "long"] else if bs.length < a + min 41 (zrun bs a) + min 41 (zrun bs a) + 1 then [.str "short"]
  else [.str "read", .int (numL ((bs.drop (a + min 41 (zrun bs a))).take (min 41 (zrun bs a) + 1)) - 1), .int ((a + min 41 (zrun bs a) + min 41 (zrun bs a) + 1 : Nat) : Int)]
theorem tw_at {p : Int → Bool} : ∀ (l : List Int) (j : Nat), j < (l.takeWhile p).length → ∃ x, l[j]? = some x ∧ p x = true
  | [], j, h => by simp at h
  | y :: l, j, h => by
    rw [List.takeWhile_cons] at h
    by_cases e : p y = true
    · rw [if_pos e] at h
      cases j with
      | zero => exact ⟨y, rfl, e⟩
      | succ j => exact tw_at l j (by simpa using h)
    · rw [if_neg e] at h; simp at h
theorem tw_end {p : Int → Bool} : ∀ (l : List Int) (x : Int), l[(l.takeWhile p).length]? = some x → p x = false
  | [], x, h => by simp at h
  | y :: l, x, h => by
    rw [List.takeWhile_cons] at h
    by_cases e : p y = true
    · rw [if_pos e] at h
      exact tw_end l x (by simpa using h)
    · rw [if_neg e] at h
      have : y = x := by simpa using h
      subst this
      simpa using e
theorem zrun_at {bs : List Int} {a j : Nat} (h : j < zrun bs a) : bs[a + j]? = some 0 := by
  obtain ⟨x, e, hx⟩ := tw_at (bs.drop a) j h
  rw [List.getElem?_drop] at e
  rw [e]; simpa using hx
theorem zrun_end {bs : List Int} {a : Nat} : bs[a + zrun bs a]? ≠ some 0 := fun e => by
  have := tw_end (p := fun b => decide (b = 0)) (bs.drop a) 0 (by rw [List.getElem?_drop]; exact e)
  simp at this
theorem zrun_le {bs : List Int} {a : Nat} (h : a ≤ bs.length) : a + zrun bs a ≤ bs.length := by
  have : zrun bs a ≤ (bs.drop a).length := (List.takeWhile_sublist _).length_le
  simp at this; omega
theorem tw_rep (z : Nat) (r : List Int) (h : ∀ x, r[0]? = some x → x ≠ 0) : ((List.replicate z (0 : Int) ++ r).takeWhile fun b => decide (b = 0)).length = z := by
  induction z with
  | zero =>
    cases r with
    | nil => simp
    | cons x r => have := h x rfl; simp [this]
  | succ z ih => rw [List.replicate_succ, List.cons_append, List.takeWhile_cons, if_pos (by simp), List.length_cons, ih]
theorem cntR_code {c : Nat} (hc : c ≤ 2199023255550) (A B : List Int) : cntR (A ++ countL c ++ B) A.length = [.str "read", .int c, .int ((A.length + (countL c).length : Nat) : Int)] := by
  obtain ⟨z, t, h, hl, hz, hn, _⟩ := countL_form c hc
  have e : A ++ countL c ++ B = A ++ (List.replicate z 0 ++ (1 :: (t ++ B))) := by rw [h]; simp
  have hzr : zrun (A ++ countL c ++ B) A.length = z := by
    unfold zrun
    rw [e, List.drop_left]
    exact tw_rep z _ (by simp)
  have hlen : (countL c).length = z + (z + 1) := by rw [h]; simp [hl]
  unfold cntR
  rw [hzr, Nat.min_eq_right (by omega), if_neg (by omega), if_neg (by simp [hlen]; omega)]
  congr 2
  · congr 1
    rw [e, show A.length + z = (A ++ List.replicate z (0 : Int)).length by simp, ← List.append_assoc, List.drop_left, show (1 : Int) :: (t ++ B) = (1 :: t) ++ B from rfl, List.take_left' (by simp [hl]), hn]
    omega
  · rw [hlen, show A.length + z + z + 1 = A.length + (z + (z + 1)) by omega]
theorem cntR_short {c : Nat} (hc : c ≤ 2199023255550) (A : List Int) {k : Nat} (hk : k < (countL c).length) : cntR (A ++ (countL c).take k) A.length = [.str "short"] := by
  obtain ⟨z, t, h, hl, hz, hn, _⟩ := countL_form c hc
  have hlen : (countL c).length = z + (z + 1) := by rw [h]; simp [hl]
  have hzr : zrun (A ++ (countL c).take k) A.length = min k z := by
    unfold zrun
    rw [List.drop_left, h]
    by_cases hkz : k ≤ z
    · rw [List.take_append_of_le_length (by simp; omega), List.take_replicate, Nat.min_eq_left hkz]
      have := tw_rep k [] (by simp)
      simpa using this
    · rw [List.take_append, List.take_of_length_le (by simp; omega), Nat.min_eq_right (by omega)]
      refine tw_rep z _ fun x hx => ?_
      rw [List.length_replicate, show k - z = (k - z - 1) + 1 by omega, List.take_succ_cons] at hx
      have : (1 : Int) = x := by simpa using hx
      omega
  unfold cntR
  rw [hzr, if_neg (by omega), if_pos]
  simp; omega
/-! ### lists cut up -/
section CutS
variable {α β : Type}
def chunk (k : Nat) (xs : List α) : List (List α) := if h : xs = [] ∨ k = 0 then [] else xs.take k :: chunk k (xs.drop k)
termination_by xs.length
decreasing_by
  have : xs.length ≠ 0 := fun z => h (.inl (List.eq_nil_of_length_eq_zero z))
  rw [List.length_drop]; omega
theorem chunk_nil (k : Nat) : chunk k ([] : List α) = [] := by rw [chunk]; simp
theorem chunk_cons {k : Nat} {xs : List α} (hk : 0 < k) (hx : xs ≠ []) : chunk k xs = xs.take k :: chunk k (xs.drop k) := by
  rw [chunk, dif_neg (by rintro (h | h); exact hx h; omega)]
/-- by the length -/
theorem len_ind {P : List α → Prop} {k : Nat} (hk : 0 < k) (h0 : P []) (h1 : ∀ xs, xs ≠ [] → P (xs.drop k) → P xs) : ∀ xs, P xs := by
  intro xs
  generalize hn : xs.length = n
  induction n using Nat.strongRecOn generalizing xs with
  | _ n ih =>
    cases xs with
    | nil => exact h0
    | cons x r =>
      refine h1 _ (by simp) (ih ((x :: r).drop k).length ?_ _ rfl)
      rw [List.length_drop, hn]
      simp at hn; omega
theorem chunk_len {k : Nat} (hk : 0 < k) (xs : List α) : (chunk k xs).length = (xs.length + k - 1) / k := by
  refine len_ind (P := fun xs => (chunk k xs).length = (xs.length + k - 1) / k) hk ?_ (fun xs hx ih => ?_) xs
  · rw [chunk_nil]; simp; rw [Nat.div_eq_of_lt (by omega)]
  · have hl : 0 < xs.length := List.length_pos_iff.mpr hx
    rw [chunk_cons hk hx, List.length_cons, ih, List.length_drop]
    by_cases h : k ≤ xs.length
    · rw [show xs.length + k - 1 = (xs.length - k + k - 1) + k by omega, Nat.add_div_right _ hk]
    · rw [show xs.length - k = 0 by omega, Nat.div_eq_of_lt (by omega)]
      rw [show xs.length + k - 1 = (xs.length - 1) + k by omega, Nat.add_div_right _ hk, Nat.div_eq_of_lt (by omega)]
theorem chunk_get {k : Nat} (hk : 0 < k) (xs : List α) : ∀ i, i < (chunk k xs).length → (chunk k xs)[i]? = some ((xs.drop (i * k)).take k) := by
  refine len_ind (P := fun xs => ∀ i, i < (chunk k xs).length → (chunk k xs)[i]? = some ((xs.drop (i * k)).take k)) hk ?_ (fun xs hx ih => ?_) xs
  · rw [chunk_nil]; intro i h; simp at h
  · rw [chunk_cons hk hx]
    intro i hi
    cases i with
    | zero => simp
    | succ i =>
      rw [List.getElem?_cons_succ, ih i (by simpa using hi), List.drop_drop, show k + i * k = (i + 1) * k by rw [Nat.succ_mul]; omega]
theorem chunk_flatten {k : Nat} (hk : 0 < k) (xs : List α) : (chunk k xs).flatten = xs := by
  refine len_ind (P := fun xs => (chunk k xs).flatten = xs) hk ?_ (fun xs hx ih => ?_) xs
  · rw [chunk_nil]; rfl
  · rw [chunk_cons hk hx, List.flatten_cons, ih, List.take_append_drop]
theorem chunk_map {k : Nat} (hk : 0 < k) (f : α → β) (xs : List α) : chunk k (xs.map f) = (chunk k xs).map (·.map f) := by
  refine len_ind (P := fun xs => chunk k (xs.map f) = (chunk k xs).map (·.map f)) hk ?_ (fun xs hx ih => ?_) xs
  · simp [chunk_nil]
  · rw [chunk_cons hk hx, chunk_cons hk (by simpa using hx), List.map_cons, ← ih, List.map_take, List.map_drop]
/-- blocks of k things, the last one of k at most -/
def Blk (k : Nat) : List (List α) → Prop
  | [] => True
  | [b] => 0 < b.length ∧ b.length ≤ k
  | b :: r => b.length = k ∧ Blk k r
theorem Blk.cons {k : Nat} {b c : List α} {r : List (List α)} (h : Blk k (b :: c :: r)) : b.length = k ∧ Blk k (c :: r) := h
theorem chunk_blk {k : Nat} (hk : 0 < k) (xs : List α) : Blk k (chunk k xs) := by
  refine len_ind (P := fun xs => Blk k (chunk k xs)) hk ?_ (fun xs hx ih => ?_) xs
  · rw [chunk_nil]; trivial
  · rw [chunk_cons hk hx]
    have hl : 0 < xs.length := List.length_pos_iff.mpr hx
    cases h : chunk k (xs.drop k) with
    | nil => refine ⟨?_, ?_⟩ <;> rw [List.length_take] <;> omega
    | cons c r =>
      rw [h] at ih
      refine ⟨?_, ih⟩
      have : xs.drop k ≠ [] := fun z => by rw [z, chunk_nil] at h; cases h
      have := List.length_pos_iff.mpr this
      rw [List.length_drop] at this
      rw [List.length_take]; omega
theorem chunk_blocks {k : Nat} (hk : 0 < k) : ∀ bs : List (List α), Blk k bs → chunk k bs.flatten = bs
  | [], _ => chunk_nil k
  | [b], h => by
    have h : 0 < b.length ∧ b.length ≤ k := h
    have hb : b ≠ [] := List.length_pos_iff.mp h.1
    rw [List.flatten_cons, List.flatten_nil, List.append_nil, chunk_cons hk hb, List.take_of_length_le h.2, List.drop_of_length_le h.2, chunk_nil]
  | b :: c :: r, h => by
    have h2 := h.cons
    have hb : b ≠ [] := List.length_pos_iff.mp (by omega)
    rw [List.flatten_cons, chunk_cons hk (by simp [hb]), List.take_left' h2.1, List.drop_left' h2.1, chunk_blocks hk (c :: r) h2.2]
theorem Blk.map {k : Nat} (m : Nat) (f : List α → List β) (hf : ∀ b, (f b).length = b.length + m) : ∀ bs : List (List α), Blk k bs → Blk (k + m) (bs.map f)
  | [], _ => trivial
  | [b], h => by
    have h : 0 < b.length ∧ b.length ≤ k := h
    show 0 < (f b).length ∧ (f b).length ≤ k + m
    rw [hf]; omega
  | b :: c :: r, h => by
    have h2 := h.cons
    refine ⟨by rw [hf, h2.1], ?_⟩
    exact Blk.map m f hf (c :: r) h2.2
/-- the size divides: all blocks are whole -/
theorem chunk_whole {k : Nat} (hk : 0 < k) (xs : List α) : ∀ n, xs.length = n * k → ∀ b ∈ chunk k xs, b.length = k := by
  refine len_ind (P := fun xs => ∀ n, xs.length = n * k → ∀ b ∈ chunk k xs, b.length = k) hk ?_ (fun xs hx ih => ?_) xs
  · rw [chunk_nil]; intro n _ b hb; cases hb
  · intro n hn b hb
    have hl : 0 < xs.length := List.length_pos_iff.mpr hx
    have hn0 : n ≠ 0 := fun z => by rw [z] at hn; omega
    obtain ⟨m, rfl⟩ : ∃ m, n = m + 1 := ⟨n - 1, by omega⟩
    rw [Nat.succ_mul] at hn
    rw [chunk_cons hk hx] at hb
    rcases List.mem_cons.mp hb with rfl | hb
    · rw [List.length_take]; omega
    · exact ih m (by rw [List.length_drop]; omega) b hb
theorem Blk.whole {k : Nat} (hk : 0 < k) : ∀ bs : List (List α), (∀ b ∈ bs, b.length = k) → Blk k bs
  | [], _ => trivial
  | [b], h => by
    have := h b (by simp)
    exact ⟨by omega, by omega⟩
  | b :: c :: r, h => ⟨h b (by simp), Blk.whole hk (c :: r) fun x hx => h x (List.mem_cons_of_mem _ hx)⟩
end CutS
/-! ### cells -/
def isBits (l : List Int) : Prop := ∀ x ∈ l, isBit x
/-- the exclusive-or of some loads -/
def sumC (ls : List (List Int)) : List Int := (List.range 48).map fun i => (ls.map fun l => l.getD i 0).sum % 2
def cellC (l : List Int) : List Int := l ++ fixL 8 (chk l)
def padC (t : List Int) : List Int := t ++ List.replicate ((48 - t.length % 48) % 48) 0
def toldC (bs : List Int) : List Int := countL bs.length ++ bs
def loadsC (bs : List Int) : List (List Int) := chunk 48 (padC (toldC bs))
def grpC (s : List (List Int)) : List (List Int) := (s ++ [sumC s]).map cellC
def cellsC (g : Nat) (ls : List (List Int)) : List (List Int) := ((chunk g ls).map grpC).flatten
def protC (g : Nat) (bs : List Int) : List Int := (cellsC g (loadsC bs)).flatten
theorem sumC_len (ls : List (List Int)) : (sumC ls).length = 48 := by simp [sumC]
theorem sumC_bits (ls : List (List Int)) : isBits (sumC ls) := fun x hx => by
  unfold sumC at hx
  obtain ⟨i, _, rfl⟩ := List.mem_map.mp hx
  unfold isBit; omega
theorem xorB {a b : Int} (ha : isBit a) (hb : isBit b) : Builtin.bitXor a b = (a + b) % 2 := by
  rcases ha with rfl | rfl <;> rcases hb with rfl | rfl <;> decide +kernel
theorem sumC_one {l : List Int} (hl : l.length = 48) (hb : isBits l) : sumC [l] = l := by
  unfold sumC
  refine List.ext_getElem (by simp [hl]) fun i h1 h2 => ?_
  simp [List.getD_eq_getElem?_getD, List.getElem?_eq_getElem h2]
  rcases hb l[i] (List.getElem_mem h2) with e | e <;> rw [e] <;> decide
theorem sumC_snoc {ls : List (List Int)} {l : List Int} (i : Nat) (hi : i < 48) (hl : l.length = 48) : (sumC (ls ++ [l]))[i]? = some ((((sumC ls).getD i 0) + l.getD i 0) % 2) := by
  unfold sumC
  rw [List.getElem?_map, List.getElem?_range hi]
  simp [List.getD_eq_getElem?_getD, List.getElem?_range hi]
theorem cellC_len {l : List Int} (h : l.length = 48) : (cellC l).length = 56 := by simp [cellC, h, fixL_len]
theorem cellC_take {l : List Int} (h : l.length = 48) : (cellC l).take 48 = l := List.take_left' h
theorem cellC_drop {l : List Int} (h : l.length = 48) : (cellC l).drop 48 = fixL 8 (chk l) := List.drop_left' h
theorem cellC_bits {l : List Int} (h : isBits l) : isBits (cellC l) := fun x hx => (List.mem_append.mp hx).elim (h x) (fixL_bit _ _ x)
theorem padC_len (t : List Int) : ∃ n, (padC t).length = n * 48 := by
  unfold padC
  rw [List.length_append, List.length_replicate]
  have h := Nat.div_add_mod t.length 48
  have : t.length % 48 < 48 := Nat.mod_lt _ (by decide)
  by_cases z : t.length % 48 = 0
  · exact ⟨t.length / 48, by rw [z]; simp; omega⟩
  · exact ⟨t.length / 48 + 1, by rw [Nat.mod_eq_of_lt (by omega : 48 - t.length % 48 < 48)]; omega⟩
theorem padC_bits {t : List Int} (h : isBits t) : isBits (padC t) := fun x hx => (List.mem_append.mp hx).elim (h x) fun z => .inl (List.eq_of_mem_replicate z)
theorem toldC_bits {bs : List Int} (hb : isBits bs) (hl : bs.length ≤ 1000000) : isBits (toldC bs) := fun x hx => (List.mem_append.mp hx).elim (countL_bit _ (by omega) x) (hb x)
theorem loads_ok {bs : List Int} (hb : isBits bs) (hl : bs.length ≤ 1000000) : ∀ l ∈ loadsC bs, l.length = 48 ∧ isBits l := fun l hm => by
  obtain ⟨n, hn⟩ := padC_len (toldC bs)
  refine ⟨chunk_whole (by decide) _ n hn l hm, fun x hx => ?_⟩
  refine padC_bits (toldC_bits hb hl) x ?_
  rw [← chunk_flatten (k := 48) (by decide) (padC (toldC bs))]
  exact List.mem_flatten.mpr ⟨l, hm, hx⟩
theorem loads_flat (bs : List Int) : (loadsC bs).flatten = padC (toldC bs) := chunk_flatten (by decide) _
theorem chunk_mem {α : Type} {k : Nat} (hk : 0 < k) {xs : List α} {c : List α} {x : α} (hc : c ∈ chunk k xs) (hx : x ∈ c) : x ∈ xs := by
  rw [← chunk_flatten hk xs]; exact List.mem_flatten.mpr ⟨c, hc, hx⟩
theorem grp_ok {g : Nat} (hg : 0 < g) {ls : List (List Int)} (h : ∀ l ∈ ls, l.length = 48 ∧ isBits l) : ∀ s ∈ chunk g ls, ∀ l ∈ s ++ [sumC s], l.length = 48 ∧ isBits l := fun s hs l hm => by
  rcases List.mem_append.mp hm with hm | hm
  · exact h l (chunk_mem hg hs hm)
  · rw [List.mem_singleton.mp hm]; exact ⟨sumC_len _, sumC_bits _⟩
/-- protected bits, cut into cells and groups again -/
theorem prot_cells {g : Nat} (hg : 0 < g) {ls : List (List Int)} (h : ∀ l ∈ ls, l.length = 48 ∧ isBits l) : chunk 56 (cellsC g ls).flatten = cellsC g ls := by
  refine chunk_blocks (by decide) _ (Blk.whole (by decide) _ fun c hc => ?_)
  unfold cellsC at hc
  obtain ⟨b, hb, hc⟩ := List.mem_flatten.mp hc
  obtain ⟨s, hs, rfl⟩ := List.mem_map.mp hb
  obtain ⟨l, hl, rfl⟩ := List.mem_map.mp hc
  exact cellC_len (grp_ok hg h s hs l hl).1
theorem prot_groups {g : Nat} (hg : 0 < g) (ls : List (List Int)) : chunk (g + 1) (cellsC g ls) = (chunk g ls).map grpC :=
  chunk_blocks (by omega) _ (Blk.map 1 grpC (fun b => by simp [grpC]) _ (chunk_blk hg ls))
theorem Blk.mod {α : Type} {k : Nat} (hk : 2 ≤ k) : ∀ bs : List (List α), Blk k bs → bs ≠ [] → (∀ b ∈ bs, 2 ≤ b.length) → bs.flatten.length % k ≠ 1
  | [], _, h, _ => absurd rfl h
  | [b], h, _, h2 => by
    have h : 0 < b.length ∧ b.length ≤ k := h
    have := h2 b (by simp)
    rw [List.flatten_cons, List.flatten_nil, List.append_nil]
    by_cases e : b.length = k
    · rw [e, Nat.mod_self]; decide
    · rw [Nat.mod_eq_of_lt (by omega)]; omega
  | b :: c :: r, h, _, h2 => by
    have h3 := h.cons
    have ih := Blk.mod hk (c :: r) h3.2 (by simp) fun x hx => h2 x (List.mem_cons_of_mem _ hx)
    rw [List.flatten_cons, List.length_append, h3.1, Nat.add_mod_left]
    exact ih
theorem blk_pos {α : Type} {k : Nat} (hk : 0 < k) : ∀ bs : List (List α), Blk k bs → ∀ b ∈ bs, 0 < b.length
  | [], _, _, h => by cases h
  | [x], h, b, hb => by
    have h : 0 < x.length ∧ x.length ≤ k := h
    rw [List.mem_singleton.mp hb]; exact h.1
  | x :: y :: r, h, b, hb => by
    have h2 := h.cons
    rcases List.mem_cons.mp hb with rfl | hb
    · omega
    · exact blk_pos hk (y :: r) h2.2 b hb
theorem chunk_ne {α : Type} {k : Nat} (hk : 0 < k) {xs : List α} (h : xs ≠ []) : chunk k xs ≠ [] := by rw [chunk_cons hk h]; simp
theorem cells_mod {g : Nat} (hg : 0 < g) {L : List (List Int)} (h : L ≠ []) : (cellsC g L).length % (g + 1) ≠ 1 := by
  refine Blk.mod (by omega) _ (Blk.map 1 grpC (fun b => by simp [grpC]) _ (chunk_blk hg L)) (by simpa using chunk_ne hg h) fun b hb => ?_
  obtain ⟨s, hs, rfl⟩ := List.mem_map.mp hb
  have := blk_pos hg _ (chunk_blk hg L) s hs
  simp [grpC]; omega
theorem cells_pos {g : Nat} (hg : 0 < g) {L : List (List Int)} (h : L ≠ []) : 0 < (cellsC g L).length := by
  cases e : (cellsC g L).length with
  | succ n => omega
  | zero =>
    have hc := chunk_ne hg h
    unfold cellsC at e
    cases z : chunk g L with
    | nil => exact absurd z hc
    | cons s r => rw [z] at e; simp [grpC] at e
theorem cells_mem {g : Nat} (hg : 0 < g) {L : List (List Int)} (h : ∀ l ∈ L, l.length = 48 ∧ isBits l) : ∀ c ∈ cellsC g L, c.length = 56 ∧ isBits c := fun c hc => by
  unfold cellsC at hc
  obtain ⟨b, hb, hc⟩ := List.mem_flatten.mp hc
  obtain ⟨s, hs, rfl⟩ := List.mem_map.mp hb
  obtain ⟨l, hl, rfl⟩ := List.mem_map.mp hc
  have := grp_ok hg h s hs l hl
  exact ⟨cellC_len this.1, cellC_bits this.2⟩
theorem flat_len {α : Type} {k : Nat} : ∀ bs : List (List α), (∀ b ∈ bs, b.length = k) → bs.flatten.length = bs.length * k
  | [], _ => by simp
  | b :: r, h => by
    rw [List.flatten_cons, List.length_append, flat_len r fun x hx => h x (List.mem_cons_of_mem _ hx), h b (by simp), List.length_cons, Nat.succ_mul]; omega
theorem flat_bits : ∀ bs : List (List Int), (∀ b ∈ bs, isBits b) → isBits bs.flatten := fun bs h x hx => by
  obtain ⟨b, hb, hx⟩ := List.mem_flatten.mp hx
  exact h b hb x hx
theorem cells_le {g : Nat} (hg : 0 < g) (L : List (List Int)) : (cellsC g L).length ≤ 2 * L.length := by
  unfold cellsC
  have h : ∀ bs : List (List (List Int)), (∀ b ∈ bs, 0 < b.length) → ((bs.map grpC).flatten).length ≤ 2 * bs.flatten.length := by
    intro bs
    induction bs with
    | nil => intro _; simp
    | cons b r ih =>
      intro hb
      have h1 := hb b (by simp)
      have h2 := ih fun x hx => hb x (List.mem_cons_of_mem _ hx)
      rw [List.map_cons, List.flatten_cons, List.flatten_cons, List.length_append, List.length_append]
      have : (grpC b).length = b.length + 1 := by simp [grpC]
      omega
  have := h _ (blk_pos hg _ (chunk_blk hg L))
  rwa [chunk_flatten hg] at this
theorem pre_len {α : Type} {k : Nat} (hk : 0 < k) (xs : List α) (i : Nat) : ((chunk k xs).take i).flatten.length ≤ xs.length := by
  have h := congrArg List.length (chunk_flatten hk xs)
  rw [← List.take_append_drop i (chunk k xs), List.flatten_append, List.length_append] at h
  omega
theorem countL_length (n : Nat) : (countL n).length = blen (n + 1) - 1 + blen (n + 1) := by simp [countL, fixL_len]
theorem padC_length (t : List Int) : (padC t).length = t.length + (48 - t.length % 48) % 48 := by simp [padC]
theorem loads_length (bs : List Int) : (loadsC bs).length = ((toldC bs).length + 47) / 48 := by
  rw [loadsC, chunk_len (by decide), padC_length]
  omega
theorem toldC_length (bs : List Int) : (toldC bs).length = (countL bs.length).length + bs.length := by simp [toldC]
theorem countL_short {n : Nat} (h : n ≤ 400) : (countL n).length ≤ 17 := by
  have : blen (n + 1) ≤ 9 := blen_le (by omega)
  rw [countL_length]; omega
theorem loads_first {bs : List Int} (h : bs.length ≤ 400) : ∃ B, (loadsC bs)[0]? = some (countL bs.length ++ B) := by
  have h0 : 0 < (countL bs.length).length := by
    have := blen_pos (n := bs.length + 1) (by omega)
    rw [countL_length]; omega
  have hl := toldC_length bs
  have hc := countL_short h
  have h1 : 0 < (loadsC bs).length := by rw [loads_length]; omega
  have := chunk_get (k := 48) (by decide) (padC (toldC bs)) 0 h1
  refine ⟨(bs ++ List.replicate ((48 - (toldC bs).length % 48) % 48) 0).take (48 - (countL bs.length).length), ?_⟩
  rw [loadsC, this, Nat.zero_mul, List.drop_zero, padC, toldC, List.append_assoc, List.take_append, List.take_of_length_le (by omega)]
theorem told_cut (bs : List Int) : ((padC (toldC bs)).drop (countL bs.length).length).take bs.length = bs := by
  rw [padC, toldC, List.append_assoc, List.drop_left, List.take_left]
theorem told_rest (bs : List Int) : (padC (toldC bs)).drop ((countL bs.length).length + bs.length) = List.replicate ((48 - (toldC bs).length % 48) % 48) 0 := by
  rw [padC, ← toldC_length, List.drop_left]
/-! ### the check by long division -/
theorem numL_cons (b : Int) (xs : List Int) : numL (b :: xs) = b * 2 ^ xs.length + numL xs := by
  have h : ∀ (xs : List Int) (a : Int), xs.foldl (fun a b => 2 * a + b) a = a * 2 ^ xs.length + xs.foldl (fun a b => 2 * a + b) 0 := by
    intro xs
    induction xs with
    | nil => intro a; simp
    | cons x r ih =>
      intro a
      rw [List.foldl_cons, List.foldl_cons, ih (2 * a + x), ih (2 * 0 + x), List.length_cons, Int.pow_succ]
      rw [Int.add_mul, Int.add_mul]
      simp
      rw [Int.mul_comm 2 a, Int.mul_assoc, Int.mul_comm 2 ((2 : Int) ^ r.length)]
      omega
  unfold numL
  rw [List.foldl_cons, h xs (2 * 0 + b)]
  simp
def numN : List Int → Nat
  | [] => 0
  | b :: r => b.toNat * 2 ^ r.length + numN r
theorem numN_lt : ∀ xs : List Int, isBits xs → numN xs < 2 ^ xs.length
  | [], _ => by decide
  | b :: r, h => by
    have ih := numN_lt r fun x hx => h x (List.mem_cons_of_mem _ hx)
    rw [numN, List.length_cons, Nat.pow_succ]
    rcases h b (by simp) with rfl | rfl
    · simp; omega
    · simp; omega
theorem numN_eq : ∀ xs : List Int, isBits xs → numL xs = (numN xs : Int)
  | [], _ => rfl
  | b :: r, h => by
    rw [numL_cons, numN, numN_eq r fun x hx => h x (List.mem_cons_of_mem _ hx)]
    rcases h b (by simp) with rfl | rfl <;> simp
def DN (h : Nat) (xs : List Int) : Nat := (h * 2 ^ xs.length) ^^^ (256 * numN xs)
theorem xor_shift (a b m : Nat) : (a ^^^ b) * 2 ^ m = a * 2 ^ m ^^^ b * 2 ^ m := by
  rw [← Nat.shiftLeft_eq, ← Nat.shiftLeft_eq, ← Nat.shiftLeft_eq, Nat.shiftLeft_xor_distrib]
theorem add_xor {a c k : Nat} (h : c < 2 ^ k) : a * 2 ^ k + c = a * 2 ^ k ^^^ c := by
  refine Nat.eq_of_testBit_eq fun j => ?_
  rw [Nat.testBit_xor, Nat.mul_comm a, Nat.testBit_two_pow_mul_add a h j, Nat.testBit_two_pow_mul]
  by_cases hj : j < k
  · simp [hj, show ¬ k ≤ j by omega]
  · have : c.testBit j = false := Nat.testBit_lt_two_pow (Nat.lt_of_lt_of_le h (Nat.pow_le_pow_right (by decide) (by omega)))
    simp [hj, this, show k ≤ j by omega]
theorem stp_div : ∀ h < 256, ∀ b < 2, 2 * h ^^^ 256 * b = stp h b ^^^ (if (h / 128) ^^^ b = 1 then 263 else 0) := by decide +kernel
theorem DN_lt {h : Nat} {xs : List Int} (hh : h < 256) (hx : isBits xs) : DN h xs < 2 ^ (xs.length + 8) := by
  have h2 := numN_lt xs hx
  refine Nat.xor_lt_two_pow ?_ ?_
  · rw [Nat.pow_add, Nat.mul_comm]
    exact Nat.mul_lt_mul_of_pos_left (by omega) (Nat.two_pow_pos _)
  · rw [Nat.pow_add, show (2 : Nat) ^ 8 = 256 by decide]; omega
theorem DN_step {h : Nat} {b : Int} {xs : List Int} (hh : h < 256) (hb : isBit b) (hx : isBits xs) :
    DN h (b :: xs) = DN (stp h b.toNat) xs ^^^ ((if (h / 128) ^^^ b.toNat = 1 then 263 else 0) * 2 ^ xs.length) := by
  have h2 := numN_lt xs hx
  unfold DN
  rw [List.length_cons, numN]
  have e1 : h * 2 ^ (xs.length + 1) = 2 * h * 2 ^ xs.length := by rw [Nat.pow_succ, Nat.mul_comm 2 h, Nat.mul_assoc, Nat.mul_comm 2]
  have e2 : 256 * (b.toNat * 2 ^ xs.length + numN xs) = 256 * b.toNat * 2 ^ xs.length ^^^ 256 * numN xs := by
    have e3 : 256 * b.toNat * 2 ^ xs.length = b.toNat * 2 ^ (xs.length + 8) := by rw [Nat.pow_add, show (2 : Nat) ^ 8 = 256 by decide, Nat.mul_comm 256, Nat.mul_assoc, Nat.mul_comm 256]
    rw [Nat.mul_add, ← Nat.mul_assoc, e3]
    exact add_xor (by rw [Nat.pow_add, show (2 : Nat) ^ 8 = 256 by decide]; omega)
  rw [e1, e2, ← Nat.xor_assoc, ← xor_shift, stp_div h hh b.toNat (bit_lt hb), xor_shift, Nat.xor_assoc, Nat.xor_assoc, Nat.xor_comm (_ * 2 ^ xs.length) (256 * numN xs)]
theorem DN_bit {h : Nat} {b : Int} {xs : List Int} (hh : h < 256) (hb : isBit b) (hx : isBits xs) : (DN h (b :: xs) / 2 ^ (xs.length + 8) % 2 = 1) ↔ ((h / 128) ^^^ b.toNat = 1) := by
  rw [DN_step hh hb hx]
  have hlt := DN_lt (h := stp h b.toNat) (stp_lt _ _) hx
  have t1 : (DN (stp h b.toNat) xs).testBit (xs.length + 8) = false := Nat.testBit_lt_two_pow hlt
  have key : (DN (stp h b.toNat) xs ^^^ ((if (h / 128) ^^^ b.toNat = 1 then 263 else 0) * 2 ^ xs.length)).testBit (xs.length + 8) = decide ((h / 128) ^^^ b.toNat = 1) := by
    rw [Nat.testBit_xor, t1, Nat.mul_comm, Nat.testBit_two_pow_mul]
    by_cases c : (h / 128) ^^^ b.toNat = 1
    · rw [if_pos c]; simp [c]; decide
    · rw [if_neg c]; simp [c]
  rw [Nat.testBit_eq_decide_div_mod_eq] at key
  by_cases c : (h / 128) ^^^ b.toNat = 1
  · rw [decide_eq_true c] at key
    exact ⟨fun _ => c, fun _ => of_decide_eq_true key⟩
  · rw [decide_eq_false c] at key
    exact ⟨fun z => absurd z (of_decide_eq_false key), fun z => absurd z c⟩
/-! ### a lost load is found again (k61) -/
theorem sum_erase : ∀ (xs : List Int) (k : Nat) (h : k < xs.length), (xs.eraseIdx k).sum = xs.sum - xs[k]
  | [], k, h => absurd h (by simp)
  | x :: r, 0, _ => by simp; omega
  | x :: r, k + 1, h => by
    have ih := sum_erase r k (by simpa using h)
    simp only [List.eraseIdx_cons_succ, List.sum_cons, ih, List.getElem_cons_succ]
    omega
theorem map_erase {α β : Type} (f : α → β) : ∀ (xs : List α) (k : Nat), (xs.eraseIdx k).map f = (xs.map f).eraseIdx k
  | [], _ => by simp
  | x :: r, 0 => rfl
  | x :: r, k + 1 => by simp [map_erase f r k]
/-- a lost load is the exclusive-or of the others -/
theorem sum_others {s : List (List Int)} (h : ∀ l ∈ s, l.length = 48 ∧ isBits l) (k : Nat) (hk : k < (s ++ [sumC s]).length) : sumC ((s ++ [sumC s]).eraseIdx k) = (s ++ [sumC s])[k] := by
  have hl : ∀ l ∈ s ++ [sumC s], l.length = 48 ∧ isBits l := fun l hm => by
    rcases List.mem_append.mp hm with hm | hm
    · exact h l hm
    · rw [List.mem_singleton.mp hm]; exact ⟨sumC_len _, sumC_bits _⟩
  have hm := hl _ (List.getElem_mem hk)
  refine List.ext_getElem (by rw [sumC_len, hm.1]) fun i h1 h2 => ?_
  have hi : i < 48 := by rw [sumC_len] at h1; exact h1
  have e1 : ((s ++ [sumC s]).map fun l => l.getD i 0).sum % 2 = 0 := by
    have : (sumC s).getD i 0 = (s.map fun l => l.getD i 0).sum % 2 := by
      rw [List.getD_eq_getElem?_getD, List.getElem?_eq_getElem (by rw [sumC_len]; exact hi)]
      simp [sumC]
    rw [List.map_append, List.sum_append, List.map_cons, List.map_nil, List.sum_cons, List.sum_nil, this]
    omega
  have hk2 : k < ((s ++ [sumC s]).map fun l => l.getD i 0).length := by rw [List.length_map]; exact hk
  have e2 := sum_erase ((s ++ [sumC s]).map fun l => l.getD i 0) k hk2
  have e3 : (sumC ((s ++ [sumC s]).eraseIdx k))[i]'h1 = (((s ++ [sumC s]).eraseIdx k).map fun l => l.getD i 0).sum % 2 := by simp [sumC]
  refine e3.trans ?_
  rw [map_erase, e2, List.getElem_map]
  have e4 : ((s ++ [sumC s])[k]).getD i 0 = ((s ++ [sumC s])[k])[i]'h2 := by rw [List.getD_eq_getElem?_getD, List.getElem?_eq_getElem h2]; rfl
  rw [e4]
  have hb := hm.2 _ (List.getElem_mem h2)
  rcases hb with hb | hb <;> rw [hb] <;> omega
def goodI (b : Int) : Bool := decide (0 ≤ b) && decide (b ≤ 1)
theorem all_good {bs : List Int} : bs.all goodI = true ↔ isBits bs := by
  rw [List.all_eq_true]
  refine forall_congr' fun x => forall_congr' fun _ => ?_
  unfold goodI isBit
  simp only [Bool.and_eq_true, decide_eq_true_eq]
  omega
/-! ### opened groups, damaged or not -/
def goodL (c : List Int) : Bool := decide (c.drop 48 = fixL 8 (chk (c.take 48)))
def badI (cs : List (List Int)) : List Nat := (List.range cs.length).filter fun i => !goodL (cs.getD i [])
def fillO (cs : List (List Int)) (k : Nat) : Option (List Int) := if (badI cs).length = 1 then some (sumC ((cs.map (·.take 48)).eraseIdx k)) else none
def stO (cs : List (List Int)) (i : Nat) : List (Option (List Int)) := ((badI cs).take i).foldl (fun ls k => ls.set k (fillO cs k)) (cs.map fun c => some (c.take 48))
def openG (cs : List (List Int)) : List (Option (List Int)) := (stO cs (badI cs).length).dropLast
theorem stO_zero (cs : List (List Int)) : stO cs 0 = cs.map fun c => some (c.take 48) := rfl
theorem stO_succ {cs : List (List Int)} {i : Nat} (h : i < (badI cs).length) : stO cs (i + 1) = (stO cs i).set ((badI cs)[i]) (fillO cs (badI cs)[i]) := by
  unfold stO
  rw [List.take_succ_eq_append_getElem h, List.foldl_append]
  rfl
theorem stO_len (cs : List (List Int)) (i : Nat) : (stO cs i).length = cs.length := by
  unfold stO
  generalize (badI cs).take i = b
  have : ∀ (b : List Nat) (l : List (Option (List Int))), (b.foldl (fun ls k => ls.set k (fillO cs k)) l).length = l.length := by
    intro b
    induction b with
    | nil => intro l; rfl
    | cons x r ih => intro l; rw [List.foldl_cons, ih, List.length_set]
  rw [this, List.length_map]
theorem openG_len (cs : List (List Int)) : (openG cs).length = cs.length - 1 := by rw [openG, List.length_dropLast, stO_len]
theorem badI_lt {cs : List (List Int)} {k : Nat} (h : k ∈ badI cs) : k < cs.length := by
  unfold badI at h
  exact List.mem_range.mp (List.mem_filter.mp h).1
theorem badI_mem {cs : List (List Int)} {k : Nat} : k ∈ badI cs ↔ ∃ h : k < cs.length, goodL cs[k] = false := by
  unfold badI
  rw [List.mem_filter, List.mem_range]
  constructor
  · rintro ⟨h, e⟩
    refine ⟨h, ?_⟩
    rw [List.getD_eq_getElem?_getD, List.getElem?_eq_getElem h] at e
    simpa using e
  · rintro ⟨h, e⟩
    refine ⟨h, ?_⟩
    rw [List.getD_eq_getElem?_getD, List.getElem?_eq_getElem h]
    simpa using e
theorem badI_nodup (cs : List (List Int)) : (badI cs).Nodup := List.Pairwise.filter _ List.nodup_range
/-- the loads at each place -/
theorem openG_at {cs : List (List Int)} {i : Nat} (h : i + 1 < cs.length) : (openG cs)[i]? = some (if i ∈ badI cs then fillO cs i else some ((cs.getD i []).take 48)) := by
  have key : ∀ (b : List Nat) (l : List (Option (List Int))) (i : Nat), i < l.length → (b.foldl (fun ls k => ls.set k (fillO cs k)) l)[i]? = if i ∈ b then some (fillO cs i) else l[i]? := by
    intro b
    induction b with
    | nil => intro l i h; simp
    | cons x r ih =>
      intro l i h
      rw [List.foldl_cons, ih _ _ (by rw [List.length_set]; exact h)]
      by_cases e : i ∈ r
      · rw [if_pos e, if_pos (List.mem_cons_of_mem _ e)]
      · rw [if_neg e]
        by_cases e2 : i = x
        · subst e2
          rw [if_pos (List.mem_cons_self ..), List.getElem?_set_self h]
        · rw [if_neg (by simp [e, e2]), List.getElem?_set_ne (fun z => e2 z.symm)]
  unfold openG
  rw [List.dropLast_eq_take, List.getElem?_take_of_lt (by rw [stO_len]; omega)]
  unfold stO
  rw [List.take_length, key _ _ _ (by rw [List.length_map]; omega)]
  by_cases e : i ∈ badI cs
  · rw [if_pos e, if_pos e]
  · rw [if_neg e, if_neg e, List.getElem?_map, List.getD_eq_getElem?_getD, List.getElem?_eq_getElem (show i < cs.length by omega)]
    rfl
/-- what count_told tells -/
def cntT (l : List Int) : Option (Nat × Nat) :=
  if 40 < min 41 (zrun l 0) then none else if l.length < min 41 (zrun l 0) + min 41 (zrun l 0) + 1 then none
  else if numL ((l.drop (min 41 (zrun l 0))).take (min 41 (zrun l 0) + 1)) - 1 ≤ 1000000 then some ((numL ((l.drop (min 41 (zrun l 0))).take (min 41 (zrun l 0) + 1)) - 1).toNat, min 41 (zrun l 0) + min 41 (zrun l 0) + 1) else none
inductive OpR
  | bits | outside | cells | non
  | told (bs : List (Option Int))
def flatO (L : List (Option (List Int))) : List (Option Int) := (L.map fun o => match o with
  | none => List.replicate 48 none
  | some l => l.map some).flatten
def sizeOk (g n : Nat) : Prop := n % 56 = 0 ∧ n / 56 ≠ 0 ∧ (n / 56) % (g + 1) ≠ 1
instance (g n : Nat) : Decidable (sizeOk g n) := inferInstanceAs (Decidable (_ ∧ _ ∧ _))
def loadsO (g : Nat) (ns : List Int) : List (Option (List Int)) := ((chunk (g + 1) (chunk 56 ns)).map openG).flatten
def endR (L : List (Option (List Int))) (n p : Nat) : OpR :=
  if (n + p + 47) / 48 ≠ L.length then .cells else if some 1 ∈ (flatO L).drop (p + n) then .cells else .told (((flatO L).drop p).take n)
def openL (L : List (Option (List Int))) : OpR := match L with
  | none :: _ => .non
  | some l :: _ => match cntT l with
    | none => .cells
    | some (n, p) => endR L n p
  | [] => .non
def openR (g : Int) (ns : List Int) : OpR :=
  if ns.all goodI = false then .bits else if ¬ (1 ≤ g ∧ g ≤ 8) then .outside else if ¬ sizeOk g.toNat ns.length then .cells else openL (loadsO g.toNat ns)
theorem chunk_two {k : Nat} (hk : 1 < k) {cs : List (List Int)} : cs.length % k ≠ 1 → ∀ s ∈ chunk k cs, 2 ≤ s.length := by
  refine len_ind (k := k) (P := fun cs => cs.length % k ≠ 1 → ∀ s ∈ chunk k cs, 2 ≤ s.length) (by omega) ?_ (fun xs hx ih => ?_) cs
  · rw [chunk_nil]; intro _ s hs; cases hs
  · intro hm s hs
    have hl : 0 < xs.length := List.length_pos_iff.mpr hx
    rw [chunk_cons (by omega) hx] at hs
    by_cases h : k ≤ xs.length
    · rcases List.mem_cons.mp hs with rfl | hs
      · rw [List.length_take]; omega
      · refine ih ?_ s hs
        rw [List.length_drop]
        rwa [Nat.mod_eq_sub_mod h] at hm
    · have h1 : xs.length % k = xs.length := Nat.mod_eq_of_lt (by omega)
      rw [List.drop_of_length_le (by omega), chunk_nil, List.mem_singleton] at hs
      rw [hs, List.length_take]; omega
theorem openG_lds {k : Nat} {cs : List (List Int)} (hC : ∀ c ∈ cs, c.length = 56 ∧ isBits c) : ∀ o ∈ ((chunk (k + 1) cs).map openG).flatten, ∀ l, o = some l → l.length = 48 ∧ isBits l := fun o ho l hl => by
  obtain ⟨L, hL, ho⟩ := List.mem_flatten.mp ho
  obtain ⟨s, hs, rfl⟩ := List.mem_map.mp hL
  obtain ⟨i, hi⟩ := List.getElem?_of_mem ho
  have hil := (List.getElem?_eq_some_iff.mp hi).1
  rw [openG_len] at hil
  rw [openG_at (by omega)] at hi
  by_cases e : i ∈ badI s
  · rw [if_pos e] at hi
    unfold fillO at hi
    split at hi
    · obtain rfl : l = _ := Option.some.inj (hl.symm.trans (Option.some.inj hi).symm)
      exact ⟨sumC_len _, sumC_bits _⟩
    · rw [hl] at hi; cases hi
  · rw [if_neg e] at hi
    obtain rfl : l = _ := Option.some.inj (hl.symm.trans (Option.some.inj hi).symm)
    have hc : s.getD i [] ∈ s := by
      rw [List.getD_eq_getElem?_getD, List.getElem?_eq_getElem (show i < s.length by omega)]
      exact List.getElem_mem _
    have := hC _ (chunk_mem (by omega) hs hc)
    exact ⟨by rw [List.length_take]; omega, fun x hx => this.2 x (List.mem_of_mem_take hx)⟩
theorem loadsO_ne {k : Nat} (hk : 0 < k) {cs : List (List Int)} (h0 : cs.length ≠ 0) (h1 : cs.length % (k + 1) ≠ 1) : ((chunk (k + 1) cs).map openG).flatten ≠ [] := fun e => by
  have hne : cs ≠ [] := fun z => h0 (by rw [z]; rfl)
  have hc := chunk_ne (k := k + 1) (by omega) hne
  have h2 := chunk_two (k := k + 1) (by omega) h1
  cases z : chunk (k + 1) cs with
  | nil => exact hc z
  | cons s r =>
    rw [z] at e h2
    have := h2 s (by simp)
    have e2 := congrArg List.length e
    rw [List.map_cons, List.flatten_cons, List.length_append, openG_len] at e2
    simp at e2; omega
theorem flatO_len : ∀ L : List (Option (List Int)), (∀ o ∈ L, ∀ l, o = some l → l.length = 48) → (flatO L).length = L.length * 48
  | [], _ => rfl
  | o :: r, h => by
    have ih := flatO_len r fun x hx => h x (List.mem_cons_of_mem _ hx)
    have h0 := h o (by simp)
    have e : flatO (o :: r) = flatO [o] ++ flatO r := by simp [flatO]
    rw [e, List.length_append, ih, List.length_cons, Nat.succ_mul]
    have : (flatO [o]).length = 48 := by
      cases o with
      | none => simp [flatO]
      | some l => simp [flatO, h0 l rfl]
    omega
/-! ### changed cells (k61) -/
structure Chd (m : Nat → Bool) (cs ch : List (List Int)) : Prop where
  le : ch.length ≤ cs.length
  at' : ∀ j c, ch[j]? = some c → (c.length = 56 ∧ isBits c) ∧ goodL c = !m j ∧ (m j = false → cs[j]? = some c)
theorem Chd.nil {m : Nat → Bool} {cs : List (List Int)} : Chd m cs [] := ⟨by simp, fun j c h => by simp at h⟩
theorem Chd.snoc {m : Nat → Bool} {cs ch : List (List Int)} {c : List Int} (h : Chd m cs ch) (hl : ch.length < cs.length) (hc : c.length = 56 ∧ isBits c) (hg : goodL c = !m ch.length) (hk : m ch.length = false → cs[ch.length]? = some c) : Chd m cs (ch ++ [c]) :=
  ⟨by rw [List.length_append, List.length_singleton]; omega, fun j x hx => by
    by_cases e : j < ch.length
    · rw [List.getElem?_append_left e] at hx
      exact h.at' j x hx
    · have hj := (List.getElem?_eq_some_iff.mp hx).1
      rw [List.length_append, List.length_singleton] at hj
      have : j = ch.length := by omega
      subst this
      rw [List.getElem?_append_right (Nat.le_refl _), Nat.sub_self] at hx
      obtain rfl := Option.some.inj hx
      exact ⟨hc, hg, hk⟩⟩
theorem Chd.congr {m m' : Nat → Bool} {cs ch : List (List Int)} (h : Chd m cs ch) (e : ∀ j < ch.length, m j = m' j) : Chd m' cs ch :=
  ⟨h.le, fun j c hc => by rw [← e j (List.getElem?_eq_some_iff.mp hc).1]; exact h.at' j c hc⟩
theorem Chd.part {m : Nat → Bool} {cs ch : List (List Int)} (h : Chd m cs ch) (he : ch.length = cs.length) (a k : Nat) : Chd (fun j => m (a + j)) ((cs.drop a).take k) ((ch.drop a).take k) :=
  ⟨by rw [List.length_take, List.length_take, List.length_drop, List.length_drop]; omega, fun j c hc => by
    have hj : j < k := by
      have := (List.getElem?_eq_some_iff.mp hc).1
      rw [List.length_take] at this; omega
    rw [List.getElem?_take_of_lt hj, List.getElem?_drop] at hc
    rw [List.getElem?_take_of_lt hj, List.getElem?_drop]
    exact h.at' _ c hc⟩
theorem grpC_at {s : List (List Int)} {j : Nat} (h : j < s.length + 1) : (grpC s)[j]? = some (cellC ((s ++ [sumC s]).getD j [])) := by
  unfold grpC
  have h2 : j < (s ++ [sumC s]).length := by simp; omega
  rw [List.getElem?_map, List.getD_eq_getElem?_getD, List.getElem?_eq_getElem h2]; rfl
theorem bad_iff {m : Nat → Bool} {cs c : List (List Int)} (h : Chd m cs c) {j : Nat} : j ∈ badI c ↔ j < c.length ∧ m j = true := by
  rw [badI_mem]
  constructor
  · rintro ⟨hj, e⟩
    have := (h.at' j _ (List.getElem?_eq_getElem hj)).2.1
    rw [e] at this
    exact ⟨hj, by simpa using this.symm⟩
  · rintro ⟨hj, e⟩
    have := (h.at' j _ (List.getElem?_eq_getElem hj)).2.1
    rw [e] at this
    exact ⟨hj, by simpa using this⟩
theorem one_nodup {l : List Nat} {k : Nat} (hn : l.Nodup) (hk : k ∈ l) (h : ∀ x ∈ l, x = k) : l.length = 1 := by
  match l, hn, hk, h with
  | [x], _, _, _ => rfl
  | x :: y :: r, hn, _, h =>
    have e1 := h x (by simp)
    have e2 := h y (by simp)
    rw [List.nodup_cons] at hn
    exact absurd (by rw [e1, e2]; simp : x ∈ y :: r) hn.1
theorem two_len {l : List Nat} {a b : Nat} (ha : a ∈ l) (hb : b ∈ l) (n : a ≠ b) : l.length ≠ 1 := fun e => by
  match l, e, ha, hb with
  | [x], _, ha, hb =>
    rw [List.mem_singleton] at ha hb
    exact n (ha.trans hb.symm)
theorem open_group {s c : List (List Int)} {m lost : Nat → Bool} (hs : ∀ l ∈ s, l.length = 48 ∧ isBits l) (h : Chd m (grpC s) c) (hl : c.length = s.length + 1)
    (hm : ((∀ j j', j < s.length + 1 → j' < s.length + 1 → m j = true → m j' = true → j = j') ∧ ∀ j < s.length, lost j = false) ∨ ((∃ a b, a ≠ b ∧ a < s.length + 1 ∧ b < s.length + 1 ∧ m a = true ∧ m b = true) ∧ ∀ j < s.length, lost j = m j)) :
    openG c = (List.range s.length).map fun j => if lost j = true then none else some (s.getD j []) := by
  have hsl : ∀ l ∈ s ++ [sumC s], l.length = 48 ∧ isBits l := fun l hm => by
    rcases List.mem_append.mp hm with hm | hm
    · exact hs l hm
    · rw [List.mem_singleton.mp hm]; exact ⟨sumC_len _, sumC_bits _⟩
  have keep : ∀ j, j < s.length + 1 → m j = false → ∀ x, c[j]? = some x → x.take 48 = (s ++ [sumC s]).getD j [] := fun j hj hmj x hx => by
    have e := (h.at' j x hx).2.2 hmj
    rw [grpC_at hj] at e
    rw [← Option.some.inj e]
    refine cellC_take (hsl _ ?_).1
    have h2 : j < (s ++ [sumC s]).length := by simp; omega
    rw [List.getD_eq_getElem?_getD, List.getElem?_eq_getElem h2]
    exact List.getElem_mem h2
  have sD : ∀ j, j < s.length → (s ++ [sumC s]).getD j [] = s.getD j [] := fun j hj => by
    rw [List.getD_eq_getElem?_getD, List.getD_eq_getElem?_getD, List.getElem?_append_left hj]
  refine List.ext_getElem? fun j => ?_
  by_cases hj : j < s.length
  rotate_left
  · rw [List.getElem?_eq_none (by rw [openG_len]; omega), List.getElem?_eq_none (by simp; omega)]
  rw [openG_at (by omega), List.getElem?_map, List.getElem?_range hj, Option.map_some]
  congr 1
  have hjc : j < c.length := by omega
  by_cases hb : j ∈ badI c
  · have hmj := ((bad_iff h).mp hb).2
    rw [if_pos hb]
    unfold fillO
    rcases hm with ⟨h1, h2⟩ | ⟨⟨a, b, nab, ha, hb2, ma, mb⟩, h2⟩
    · have hone := one_nodup (badI_nodup c) hb (fun x hx => by
        have := (bad_iff h).mp hx
        exact h1 x j (by omega) (by omega) this.2 hmj)
      rw [if_pos hone, if_neg (by rw [h2 j hj]; simp)]
      congr 1
      have hks : j < (s ++ [sumC s]).length := by simp; omega
      have e : (c.map (·.take 48)).eraseIdx j = (s ++ [sumC s]).eraseIdx j := by
        refine List.ext_getElem? fun i => ?_
        have key : ∀ i, i ≠ j → (c.map (·.take 48))[i]? = (s ++ [sumC s])[i]? := fun i ne => by
          by_cases hi : i < s.length + 1
          · have hic : i < c.length := by omega
            have his : i < (s ++ [sumC s]).length := by simp; omega
            have hmi : m i = false := by
              cases z : m i with
              | false => rfl
              | true => exact absurd (h1 i j hi (by omega) z hmj) ne
            rw [List.getElem?_map, List.getElem?_eq_getElem hic, Option.map_some, keep i hi hmi _ (List.getElem?_eq_getElem hic), List.getD_eq_getElem?_getD, List.getElem?_eq_getElem his]; rfl
          · rw [List.getElem?_eq_none (by rw [List.length_map]; omega), List.getElem?_eq_none (by simp; omega)]
        rw [List.getElem?_eraseIdx, List.getElem?_eraseIdx]
        split
        · exact key i (by omega)
        · exact key (i + 1) (by omega)
      rw [e, sum_others hs j hks, ← sD j hj, List.getD_eq_getElem?_getD, List.getElem?_eq_getElem hks]; rfl
    · have htwo := two_len ((bad_iff h).mpr ⟨by omega, ma⟩) ((bad_iff h).mpr ⟨by omega, mb⟩) nab
      rw [if_neg htwo, if_pos (by rw [h2 j hj]; exact hmj)]
  · have hmj : m j = false := by
      cases z : m j with
      | false => rfl
      | true => exact absurd ((bad_iff h).mpr ⟨hjc, z⟩) hb
    rw [if_neg hb]
    have hlo : lost j = false := by
      rcases hm with ⟨_, h2⟩ | ⟨_, h2⟩
      · exact h2 j hj
      · rw [h2 j hj]; exact hmj
    rw [if_neg (by rw [hlo]; simp), List.getD_eq_getElem?_getD, List.getElem?_eq_getElem hjc]
    show some ((c[j]).take 48) = _
    rw [keep j (by omega) hmj _ (List.getElem?_eq_getElem hjc), sD j hj]
def maskL (lost : Nat → Bool) (ls : List (List Int)) : List (Option (List Int)) := (List.range ls.length).map fun t => if lost t = true then none else some (ls.getD t [])
/-- two marked cells in a group lose their loads, one is found again -/
def Marks (g n : Nat) (m lost : Nat → Bool) : Prop := ∀ i, ((∀ j j', j < g + 1 → j' < g + 1 → i * (g + 1) + j < n → i * (g + 1) + j' < n → m (i * (g + 1) + j) = true → m (i * (g + 1) + j') = true → j = j') ∧ ∀ j < g, lost (i * g + j) = false) ∨
    ((∃ a b, a ≠ b ∧ a < g + 1 ∧ b < g + 1 ∧ i * (g + 1) + a < n ∧ i * (g + 1) + b < n ∧ m (i * (g + 1) + a) = true ∧ m (i * (g + 1) + b) = true) ∧ ∀ j < g, lost (i * g + j) = m (i * (g + 1) + j))
theorem open_all {g : Nat} (hg : 0 < g) {ls ch : List (List Int)} {m lost : Nat → Bool} (hs : ∀ l ∈ ls, l.length = 48 ∧ isBits l) (h : Chd m (cellsC g ls) ch) (hl : ch.length = (cellsC g ls).length) (hm : Marks g ch.length m lost) :
    ((chunk (g + 1) ch).map openG).flatten = maskL lost ls := by
  have hml : (maskL lost ls).length = ls.length := by simp [maskL]
  suffices e : (chunk (g + 1) ch).map openG = chunk g (maskL lost ls) by rw [e, chunk_flatten hg]
  have hcl : (chunk (g + 1) ch).length = (chunk g ls).length := by
    have e := congrArg List.length (prot_groups hg ls)
    rw [List.length_map] at e
    rw [← e, chunk_len (by omega), chunk_len (by omega), hl]
  refine List.ext_getElem? fun i => ?_
  by_cases hi : i < (chunk g ls).length
  rotate_left
  · rw [List.getElem?_eq_none (by rw [List.length_map]; omega), List.getElem?_eq_none (by rw [chunk_len hg, hml, ← chunk_len hg]; omega)]
  have hi2 : i < (chunk g (maskL lost ls)).length := by rw [chunk_len hg, hml, ← chunk_len hg]; exact hi
  rw [List.getElem?_map, chunk_get (by omega) ch i (by omega), chunk_get hg _ i hi2, Option.map_some]
  congr 1
  obtain ⟨s, hse⟩ : ∃ s, (chunk g ls)[i]? = some s := ⟨_, List.getElem?_eq_getElem hi⟩
  have hs2 := hse
  rw [chunk_get hg ls i hi] at hs2
  have hs2 := Option.some.inj hs2
  have hgs : (chunk (g + 1) (cellsC g ls))[i]? = some (grpC s) := by rw [prot_groups hg, List.getElem?_map, hse]; rfl
  have hi3 : i < (chunk (g + 1) (cellsC g ls)).length := (List.getElem?_eq_some_iff.mp hgs).1
  rw [chunk_get (by omega) _ i hi3] at hgs
  have hgs := Option.some.inj hgs
  have hp := h.part hl (i * (g + 1)) (g + 1)
  rw [hgs] at hp
  have hcs : ((ch.drop (i * (g + 1))).take (g + 1)).length = s.length + 1 := by
    have e := congrArg List.length hgs
    rw [List.length_take, List.length_drop] at e ⊢
    rw [hl, e]; simp [grpC]
  have hslen : s.length = min g (ls.length - i * g) := by rw [← hs2, List.length_take, List.length_drop]
  have hcs' := hcs
  rw [List.length_take, List.length_drop] at hcs'
  have hsm : ∀ l ∈ s, l.length = 48 ∧ isBits l := fun l hl => hs l (chunk_mem hg (List.mem_of_getElem? hse) hl)
  rw [open_group (lost := fun j => lost (i * g + j)) hsm hp hcs ?_]
  · refine List.ext_getElem? fun j => ?_
    by_cases hj : j < s.length
    rotate_left
    · rw [List.getElem?_eq_none (by simp; omega), List.getElem?_eq_none (by rw [List.length_take, List.length_drop, hml]; omega)]
    rw [List.getElem?_map, List.getElem?_range hj, Option.map_some, List.getElem?_take_of_lt (by omega), List.getElem?_drop]
    unfold maskL
    rw [List.getElem?_map, List.getElem?_range (by omega), Option.map_some]
    have : s.getD j [] = ls.getD (i * g + j) [] := by
      rw [← hs2, List.getD_eq_getElem?_getD, List.getElem?_take_of_lt (by omega), List.getElem?_drop, List.getD_eq_getElem?_getD]
    rw [this]
  · rcases hm i with ⟨h1, h2⟩ | ⟨⟨a, b, nab, ha, hb, ha2, hb2, ma, mb⟩, h2⟩
    · exact .inl ⟨fun j j' hj hj' mj mj' => h1 j j' (by omega) (by omega) (by omega) (by omega) mj mj', fun j hj => h2 j (by omega)⟩
    · exact .inr ⟨⟨a, b, nab, by omega, by omega, ma, mb⟩, fun j hj => h2 j (by omega)⟩
theorem flat_get {α : Type} {k : Nat} (hk : 0 < k) : ∀ (bs : List (List α)) (t : Nat), (∀ b ∈ bs, b.length = k) → bs.flatten[t]? = bs[t / k]?.bind (·[t % k]?)
  | [], t, _ => by simp
  | b :: r, t, h => by
    have hb := h b (by simp)
    rw [List.flatten_cons]
    by_cases ht : t < k
    · rw [List.getElem?_append_left (by omega), Nat.div_eq_of_lt ht, Nat.mod_eq_of_lt ht]; rfl
    · rw [List.getElem?_append_right (by omega), flat_get hk r _ fun x hx => h x (List.mem_cons_of_mem _ hx), hb]
      have e1 : t / k = (t - k) / k + 1 := by
        rw [show t = t - k + k by omega, Nat.add_div_right _ hk]; simp
      have e2 : t % k = (t - k) % k := by
        rw [show t = t - k + k by omega, Nat.add_mod_right]; simp
      rw [e1, e2]; rfl
theorem maskL_at {lost : Nat → Bool} {ls : List (List Int)} {i : Nat} (h : i < ls.length) : (maskL lost ls)[i]? = some (if lost i = true then none else some ls[i]) := by
  unfold maskL
  rw [List.getElem?_map, List.getElem?_range h, Option.map_some, List.getD_eq_getElem?_getD, List.getElem?_eq_getElem h]; rfl
theorem mask_flat {lost : Nat → Bool} {ls : List (List Int)} (hs : ∀ l ∈ ls, l.length = 48) {t : Nat} {b : Int} (h : ls.flatten[t]? = some b) : (flatO (maskL lost ls))[t]? = some (if lost (t / 48) = true then none else some b) := by
  rw [flat_get (by decide) ls t hs] at h
  unfold flatO
  rw [flat_get (k := 48) (by decide) _ t ?_]
  · cases e : ls[t / 48]? with
    | none => rw [e] at h; cases h
    | some l =>
      rw [e] at h
      have hlt := (List.getElem?_eq_some_iff.mp e).1
      have hle := (List.getElem?_eq_some_iff.mp e).2
      rw [List.getElem?_map, maskL_at hlt, Option.map_some]
      by_cases hl : lost (t / 48) = true
      · rw [if_pos hl, if_pos hl]
        show (List.replicate 48 none)[t % 48]? = some none
        rw [List.getElem?_replicate, if_pos (Nat.mod_lt _ (by decide))]
      · rw [if_neg hl, if_neg hl, hle]
        show (l.map some)[t % 48]? = _
        rw [List.getElem?_map]
        rw [show l[t % 48]? = some b from h]; rfl
  · intro b hb
    obtain ⟨o, ho, rfl⟩ := List.mem_map.mp hb
    cases o with
    | none => simp
    | some l =>
      unfold maskL at ho
      obtain ⟨i, hi, e⟩ := List.mem_map.mp ho
      split at e
      · cases e
      · have hi := List.mem_range.mp hi
        rw [← Option.some.inj e, List.getD_eq_getElem?_getD, List.getElem?_eq_getElem hi]
        show (List.map some ls[i]).length = 48
        rw [List.length_map]
        exact hs _ (List.getElem_mem hi)
theorem cntT_of {l : List Int} {n p : Nat} (h : cntR l 0 = [.str "read", .int n, .int p]) (hn : n ≤ 1000000) : cntT l = some (n, p) := by
  unfold cntR at h
  unfold cntT
  by_cases c1 : 40 < min 41 (zrun l 0)
  · rw [if_pos c1] at h; cases h
  rw [if_neg c1] at h ⊢
  simp only [Nat.zero_add] at h
  by_cases c2 : l.length < min 41 (zrun l 0) + min 41 (zrun l 0) + 1
  · rw [if_pos c2] at h; cases h
  rw [if_neg c2] at h ⊢
  injection h with _ h
  injection h with h1 h
  injection h with h2 _
  injection h1 with h1
  injection h2 with h2
  rw [h1, if_pos (by omega)]
  congr 2
  omega
def dueO (lost : Nat → Bool) (bs : List Int) : List (Option Int) := (List.range bs.length).map fun t => if lost (((countL bs.length).length + t) / 48) = true then none else some (bs.getD t 0)
theorem dueO_none (bs : List Int) : dueO (fun _ => false) bs = bs.map some := by
  refine List.ext_getElem? fun i => ?_
  unfold dueO
  by_cases h : i < bs.length
  · rw [List.getElem?_map, List.getElem?_range h, List.getElem?_map, List.getElem?_eq_getElem h]
    show some (some (bs.getD i 0)) = some (some bs[i])
    rw [List.getD_eq_getElem?_getD, List.getElem?_eq_getElem h]; rfl
  · rw [List.getElem?_eq_none (by simp; omega), List.getElem?_eq_none (by simp; omega)]
/-- protected bits, some cells changed, opened -/
theorem open_told {g : Nat} (hg : 0 < g) (hg8 : g ≤ 8) {bs : List Int} {ch : List (List Int)} {m lost : Nat → Bool} (hb : isBits bs) (hbl : bs.length ≤ 400) (h : Chd m (cellsC g (loadsC bs)) ch) (hl : ch.length = (cellsC g (loadsC bs)).length) (hm : Marks g ch.length m lost) :
    openR (g : Int) ch.flatten = if lost 0 = true then .non else .told (dueO lost bs) := by
  have lds := loads_ok hb (by omega)
  have htl := toldC_length bs
  have hLn := loads_length bs
  have h0 : 0 < (countL bs.length).length := by
    have := blen_pos (n := bs.length + 1) (by omega)
    rw [countL_length]; omega
  have hL0 : 0 < (loadsC bs).length := by omega
  have hLne : loadsC bs ≠ [] := List.length_pos_iff.mp hL0
  have hcp := cells_pos hg hLne
  have hcm := cells_mod hg hLne
  have hc56 : ∀ c ∈ ch, c.length = 56 ∧ isBits c := fun c hc => by
    obtain ⟨j, hj⟩ := List.getElem?_of_mem hc
    exact (h.at' j c hj).1
  have hfl := flat_len ch fun c hc => (hc56 c hc).1
  unfold openR
  have hgood : ch.flatten.all goodI = true := all_good.mpr (flat_bits _ fun c hc => (hc56 c hc).2)
  rw [if_neg (by rw [hgood]; simp), if_neg (by omega), Int.toNat_natCast, if_neg (by
    refine fun z => z ⟨by omega, by omega, ?_⟩
    rw [show ch.flatten.length / 56 = ch.length by omega, hl]; exact hcm)]
  have e56 : chunk 56 ch.flatten = ch := chunk_blocks (by decide) _ (Blk.whole (by decide) _ fun c hc => (hc56 c hc).1)
  rw [loadsO, e56, open_all hg lds h hl hm]
  obtain ⟨B, hB⟩ := loads_first hbl
  have h0L := maskL_at (lost := lost) hL0
  rw [List.getElem?_eq_getElem hL0] at hB
  rw [Option.some.inj hB] at h0L
  have hfs : (loadsC bs).flatten = padC (toldC bs) := loads_flat bs
  have hml : (maskL lost (loadsC bs)).length = (loadsC bs).length := by simp [maskL]
  by_cases c0 : lost 0 = true
  · rw [if_pos c0] at h0L ⊢
    cases e : maskL lost (loadsC bs) with
    | nil => rw [e] at h0L; cases h0L
    | cons x r =>
      rw [e] at h0L
      rw [show x = none from Option.some.inj h0L]; rfl
  rw [if_neg c0] at h0L ⊢
  have cr := cntR_code (c := bs.length) (by omega) [] B
  rw [List.nil_append, List.length_nil, Nat.zero_add] at cr
  have ct := cntT_of cr (by omega)
  have eo : openL (maskL lost (loadsC bs)) = endR (maskL lost (loadsC bs)) bs.length (countL bs.length).length := by
    cases e : maskL lost (loadsC bs) with
    | nil => rw [e] at h0L; cases h0L
    | cons x r =>
      rw [e] at h0L
      rw [show x = some (countL bs.length ++ B) from Option.some.inj h0L]
      show (match cntT (countL bs.length ++ B) with
        | none => OpR.cells
        | some (n, p) => endR (some (countL bs.length ++ B) :: r) n p) = _
      rw [ct]
  rw [eo]
  unfold endR
  have h48 : ∀ l ∈ loadsC bs, l.length = 48 := fun l hl => (lds l hl).1
  have hpl : (padC (toldC bs)).length = (loadsC bs).length * 48 := by rw [← hfs]; exact flat_len _ h48
  have hfo : (flatO (maskL lost (loadsC bs))).length = (loadsC bs).length * 48 := by
    rw [flatO_len, hml]
    intro o ho l hl
    unfold maskL at ho
    obtain ⟨i, hi, e⟩ := List.mem_map.mp ho
    rw [hl] at e
    split at e
    · cases e
    · have hi := List.mem_range.mp hi
      rw [← Option.some.inj e, List.getD_eq_getElem?_getD, List.getElem?_eq_getElem hi]
      exact h48 _ (List.getElem_mem hi)
  rw [if_neg (by rw [hml]; omega), if_neg]
  · congr 1
    refine List.ext_getElem? fun t => ?_
    by_cases ht : t < bs.length
    rotate_left
    · rw [List.getElem?_eq_none (by rw [List.length_take]; omega), List.getElem?_eq_none (by simp [dueO]; omega)]
    have hbt : (loadsC bs).flatten[(countL bs.length).length + t]? = some bs[t] := by
      have e := congrArg (fun l => l[t]?) (told_cut bs)
      rw [List.getElem?_take_of_lt ht, List.getElem?_drop, List.getElem?_eq_getElem ht] at e
      rw [hfs]; exact e
    rw [List.getElem?_take_of_lt ht, List.getElem?_drop, mask_flat h48 hbt]
    unfold dueO
    rw [List.getElem?_map, List.getElem?_range ht, Option.map_some, List.getD_eq_getElem?_getD, List.getElem?_eq_getElem ht]; rfl
  · intro hm1
    obtain ⟨t, ht⟩ := List.getElem?_of_mem hm1
    rw [List.getElem?_drop] at ht
    have htl2 := (List.getElem?_eq_some_iff.mp ht).1
    rw [hfo] at htl2
    have hp2 : (countL bs.length).length + bs.length + t < (padC (toldC bs)).length := by omega
    have e0 : (padC (toldC bs))[(countL bs.length).length + bs.length + t]? = some 0 := by
      have e := congrArg (fun l => l[t]?) (told_rest bs)
      rw [List.getElem?_drop, List.getElem?_eq_getElem hp2] at e
      have h2 := (List.getElem?_eq_some_iff.mp e.symm).2
      rw [List.getElem_replicate] at h2
      rw [List.getElem?_eq_getElem hp2, ← h2]
    rw [← hfs] at e0
    rw [mask_flat h48 e0] at ht
    split at ht
    · cases ht
    · cases ht
/-! ### protected loads of any kind (k62) -/
def wGood (g : Int) (ns : List Int) : Str :=
  if ns.all goodI = false then "bits" else if ¬ (1 ≤ g ∧ g ≤ 8) then "outside" else if ¬ sizeOk g.toNat ns.length then "cells" else "let"
def wOp : OpR → Str
  | .bits => "bits"
  | .outside => "outside"
  | .cells => "cells"
  | .non => "let"
  | .told _ => "let"
theorem openR_mask {g : Nat} (hg : 0 < g) (hg8 : g ≤ 8) {ls ch : List (List Int)} {m lost : Nat → Bool} (hs : ∀ l ∈ ls, l.length = 48 ∧ isBits l) (hne : ls ≠ []) (h : Chd m (cellsC g ls) ch) (hl : ch.length = (cellsC g ls).length) (hm : Marks g ch.length m lost) :
    openR (g : Int) ch.flatten = openL (maskL lost ls) := by
  have hcp := cells_pos hg hne
  have hcm := cells_mod hg hne
  have hc56 : ∀ c ∈ ch, c.length = 56 ∧ isBits c := fun c hc => by
    obtain ⟨j, hj⟩ := List.getElem?_of_mem hc
    exact (h.at' j c hj).1
  have hfl := flat_len ch fun c hc => (hc56 c hc).1
  unfold openR
  have hgood : ch.flatten.all goodI = true := all_good.mpr (flat_bits _ fun c hc => (hc56 c hc).2)
  rw [if_neg (by rw [hgood]; simp), if_neg (by omega), Int.toNat_natCast, if_neg (by
    refine fun z => z ⟨by omega, by omega, ?_⟩
    rw [show ch.flatten.length / 56 = ch.length by omega, hl]; exact hcm)]
  have e56 : chunk 56 ch.flatten = ch := chunk_blocks (by decide) _ (Blk.whole (by decide) _ fun c hc => (hc56 c hc).1)
  rw [loadsO, e56, open_all hg hs h hl hm]
theorem chd_self {cs : List (List Int)} (h : ∀ c ∈ cs, ∃ l, c = cellC l ∧ l.length = 48 ∧ isBits l) : Chd (fun _ => false) cs cs :=
  ⟨Nat.le_refl _, fun j c hc => by
    obtain ⟨l, rfl, l48, lB⟩ := h c (List.mem_of_getElem? hc)
    exact ⟨⟨cellC_len l48, cellC_bits lB⟩, decide_eq_true (by rw [cellC_drop l48, cellC_take l48]), fun _ => hc⟩⟩
theorem marks_no (g n : Nat) : Marks g n (fun _ => false) (fun _ => false) := fun i => .inl ⟨fun _ _ _ _ _ _ h _ => (nomatch h), fun _ _ => rfl⟩
theorem cells_cell {g : Nat} (hg : 0 < g) {L : List (List Int)} (h : ∀ l ∈ L, l.length = 48 ∧ isBits l) : ∀ c ∈ cellsC g L, ∃ l, c = cellC l ∧ l.length = 48 ∧ isBits l := fun c hc => by
  unfold cellsC at hc
  obtain ⟨b, hb, hc⟩ := List.mem_flatten.mp hc
  obtain ⟨s, hs, rfl⟩ := List.mem_map.mp hb
  obtain ⟨l, hl, rfl⟩ := List.mem_map.mp hc
  exact ⟨l, rfl, grp_ok hg h s hs l hl⟩
theorem openR_whole {g : Nat} (hg : 0 < g) (hg8 : g ≤ 8) {ls : List (List Int)} (hs : ∀ l ∈ ls, l.length = 48 ∧ isBits l) (hne : ls ≠ []) : openR (g : Int) (cellsC g ls).flatten = openL (maskL (fun _ => false) ls) :=
  openR_mask hg hg8 hs hne (chd_self (cells_cell hg hs)) rfl (marks_no _ _)
/-- how loads are opened -/
theorem openL_of {ls : List (List Int)} {lost : Nat → Bool} {l : List Int} {r : List (List Int)} (he : ls = l :: r) (hl : lost 0 = false) : openL (maskL lost ls) = match cntT l with
    | none => .cells
    | some (n, p) => endR (maskL lost ls) n p := by
  have h0L := maskL_at (lost := lost) (ls := ls) (i := 0) (by rw [he]; simp)
  rw [if_neg (by rw [hl]; simp)] at h0L
  have e1 : ls[0]'(by rw [he]; simp) = l := by simp [he]
  rw [e1] at h0L
  cases e : maskL lost ls with
  | nil => rw [e] at h0L; cases h0L
  | cons x r2 =>
    rw [e] at h0L
    rw [show x = some l from Option.some.inj h0L]
    rfl
theorem wOp_len {ls : List (List Int)} {lost : Nat → Bool} {n p : Nat} (h : (n + p + 47) / 48 ≠ ls.length) : wOp (endR (maskL lost ls) n p) = "cells" := by
  have hml : (maskL lost ls).length = ls.length := by simp [maskL]
  unfold endR
  rw [hml, if_pos h]; rfl
theorem wOp_let {ls : List (List Int)} {lost : Nat → Bool} (hs : ∀ l ∈ ls, l.length = 48) {n p : Nat} (h : ∀ t, p + n ≤ t → lost (t / 48) = false → ls.flatten[t]? ≠ some 1) (c1 : (n + p + 47) / 48 = ls.length) :
    wOp (endR (maskL lost ls) n p) = "let" := by
  have hml : (maskL lost ls).length = ls.length := by simp [maskL]
  unfold endR
  rw [hml, if_neg (by omega)]
  by_cases c2 : some 1 ∈ (flatO (maskL lost ls)).drop (p + n)
  · obtain ⟨t, ht⟩ := List.getElem?_of_mem c2
    rw [List.getElem?_drop] at ht
    have hlen : (flatO (maskL lost ls)).length = ls.length * 48 := by
      rw [flatO_len, hml]
      intro o ho l hl
      unfold maskL at ho
      obtain ⟨i, hi, e⟩ := List.mem_map.mp ho
      rw [hl] at e
      split at e
      · cases e
      · have hi := List.mem_range.mp hi
        rw [← Option.some.inj e, List.getD_eq_getElem?_getD, List.getElem?_eq_getElem hi]
        exact hs _ (List.getElem_mem hi)
    have htl := (List.getElem?_eq_some_iff.mp ht).1
    have hfl := flat_len ls hs
    have hb : ls.flatten[p + n + t]? = some (ls.flatten[p + n + t]'(by omega)) := List.getElem?_eq_getElem (by omega)
    rw [mask_flat hs hb] at ht
    have ht := Option.some.inj ht
    by_cases hl : lost ((p + n + t) / 48) = true
    · rw [if_pos hl] at ht; cases ht
    · rw [if_neg hl] at ht
      refine absurd ?_ (h (p + n + t) (by omega) (by simpa using hl))
      rw [hb]; exact ht
  · rw [if_neg c2]; rfl
theorem wOp_fill {ls : List (List Int)} {lost : Nat → Bool} (hs : ∀ l ∈ ls, l.length = 48) {n p t : Nat} (h1 : p + n ≤ t) (h2 : lost (t / 48) = false) (h3 : ls.flatten[t]? = some 1) : wOp (endR (maskL lost ls) n p) = "cells" := by
  have hml : (maskL lost ls).length = ls.length := by simp [maskL]
  unfold endR
  rw [hml]
  by_cases c1 : (n + p + 47) / 48 = ls.length
  · rw [if_neg (by omega), if_pos]
    · rfl
    · have := mask_flat (lost := lost) hs h3
      rw [if_neg (by rw [h2]; simp)] at this
      refine List.mem_of_getElem? (i := t - (p + n)) ?_
      rw [List.getElem?_drop, show p + n + (t - (p + n)) = t by omega]
      exact this
  · rw [if_pos c1]; rfl
/-- the words for whole protected loads -/
theorem wOpen_none {g : Nat} (hg : 0 < g) (hg8 : g ≤ 8) {ls r : List (List Int)} {l : List Int} (hs : ∀ l ∈ ls, l.length = 48 ∧ isBits l) (he : ls = l :: r) (hc : cntT l = none) :
    wOp (openR (g : Int) (cellsC g ls).flatten) = "cells" := by
  rw [openR_whole hg hg8 hs (by rw [he]; simp), openL_of he rfl, hc]; rfl
theorem wOpen_some {g : Nat} (hg : 0 < g) (hg8 : g ≤ 8) {ls r : List (List Int)} {l : List Int} {n p : Nat} (hs : ∀ l ∈ ls, l.length = 48 ∧ isBits l) (he : ls = l :: r) (hc : cntT l = some (n, p)) :
    wOp (openR (g : Int) (cellsC g ls).flatten) = wOp (endR (maskL (fun _ => false) ls) n p) := by
  rw [openR_whole hg hg8 hs (by rw [he]; simp), openL_of he rfl, hc]
theorem size_not {g n : Nat} (h : n % 56 ≠ 0) : ¬ sizeOk g n := fun z => h z.1
theorem wGood_cells {g : Nat} (h1 : 1 ≤ g) (h8 : g ≤ 8) {ns : List Int} (hb : isBits ns) (hz : ¬ sizeOk g ns.length) : wGood (g : Int) ns = "cells" := by
  unfold wGood
  rw [if_neg (by rw [all_good.mpr hb]; simp), if_neg (by omega), Int.toNat_natCast, if_pos hz]
theorem wGood_let {g : Nat} (h1 : 1 ≤ g) (h8 : g ≤ 8) {ns : List Int} (hb : isBits ns) (hz : sizeOk g ns.length) : wGood (g : Int) ns = "let" := by
  unfold wGood
  rw [if_neg (by rw [all_good.mpr hb]; simp), if_neg (by omega), Int.toNat_natCast, if_neg (fun z => z hz)]
theorem wOpen_cells {g : Nat} (h1 : 1 ≤ g) (h8 : g ≤ 8) {ns : List Int} (hb : isBits ns) (hz : ¬ sizeOk g ns.length) : wOp (openR (g : Int) ns) = "cells" := by
  unfold openR
  rw [if_neg (by rw [all_good.mpr hb]; simp), if_neg (by omega), Int.toNat_natCast, if_pos hz]; rfl
theorem w_bits {g : Int} {ns : List Int} (hb : ns.all goodI = false) : wGood g ns = "bits" ∧ wOp (openR g ns) = "bits" := by
  unfold wGood openR
  rw [if_pos hb, if_pos hb]; exact ⟨rfl, rfl⟩
theorem w_outside {g : Int} {ns : List Int} (hb : isBits ns) (hg : ¬ (1 ≤ g ∧ g ≤ 8)) : wGood g ns = "outside" ∧ wOp (openR g ns) = "outside" := by
  unfold wGood openR
  rw [if_neg (by rw [all_good.mpr hb]; simp), if_pos hg, if_neg (by rw [all_good.mpr hb]; simp), if_pos hg]; exact ⟨rfl, rfl⟩
/-- numbers that need so many cells -/
def clen (n : Nat) : Nat := blen (n + 1) - 1 + blen (n + 1)
def fitN (k n : Nat) : Bool := decide ((n + clen n + 47) / 48 = k)
def fitsL (k : Nat) : List Nat := ((List.range (48 * k - (48 * k - 90))).map fun i => 48 * k - 90 + i).filter (fitN k)
def fitsOk (k : Nat) : Bool := match fitsL k with
  | [] => false
  | a :: r => fitN k a && fitN k ((a :: r).getLastD 0) && !fitN k ((a :: r).getLastD 0 + 1) && (decide (a = 0) || !fitN k (a - 1)) && decide ((a :: r).getLastD 0 < 48 * k)
theorem fits_ok : ∀ k < 10, 0 < k → fitsOk k = true := by decide +kernel
def SpotsOk (L : List Nat) : Prop := L ≠ [] ∧ (∀ x ∈ L, x < 56) ∧ (L.length ≤ 3 ∨ ∃ b < 49, ∀ x ∈ L, b ≤ x ∧ x < b + 8)
theorem SpotsOk.synd {L : List Nat} (h : SpotsOk L) : synd (ind L) ≠ 0 := by
  obtain ⟨h0, h1, h2 | ⟨b, hb, h3⟩⟩ := h
  · exact synd_small h0 h2 h1
  · exact synd_burst h0 hb h3
theorem flip_bits (E : Nat → Bool) : ∀ (c : List Int) (i : Nat), isBits c → isBits (flipL E i c)
  | [], _, _ => fun x h => absurd h (by simp [flipL])
  | y :: c, i, hb => fun x h => by
    rw [flipL, List.mem_cons] at h
    rcases h with rfl | h
    · have := hb y (by simp)
      unfold isBit at *
      split <;> omega
    · exact flip_bits E c (i + 1) (fun z hz => hb z (by simp [hz])) x h
theorem flip_get {L : List Nat} {c : List Int} {x : Nat} (hx : x < c.length) : (flipL (ind L) 0 c)[x]? = some (if x ∈ L then 1 - c[x] else c[x]) := by
  have q := flipL_at (ind L) c 0 x
  rw [List.getElem?_eq_getElem hx, Nat.zero_add, Option.map_some] at q
  rw [q]
  by_cases h : x ∈ L <;> simp [ind, h]
theorem flip_nil (c : List Int) : flipL (ind []) 0 c = c := by
  refine List.ext_getElem? fun i => ?_
  by_cases h : i < c.length
  · rw [flip_get h, if_neg (by simp), List.getElem?_eq_getElem h]
  · rw [List.getElem?_eq_none (by rw [flipL_len]; omega), List.getElem?_eq_none (by omega)]
theorem flip_set {L : List Nat} {c : List Int} {x : Nat} (hx : x < c.length) (n : x ∉ L) : (flipL (ind L) 0 c).set x (1 - c[x]) = flipL (ind (L ++ [x])) 0 c := by
  refine List.ext_getElem? fun i => ?_
  by_cases h : i < c.length
  · rw [flip_get h]
    by_cases e : i = x
    · subst e
      rw [List.getElem?_set_self (by rw [flipL_len]; exact h), if_pos (by simp)]
    · rw [List.getElem?_set_ne (fun z => e z.symm), flip_get h]
      by_cases m : i ∈ L <;> simp [m, e]
  · rw [List.getElem?_eq_none (by rw [List.length_set, flipL_len]; omega), List.getElem?_eq_none (by rw [flipL_len]; omega)]
theorem flip_bad {l : List Int} {L : List Nat} (hl : l.length = 48) (hb : isBits l) (ok : SpotsOk L) : goodL (flipL (ind L) 0 (cellC l)) = false := decide_eq_false (turned_bad hl hb ok.synd)
/-! ### steps that keep a Src -/
theorem Stp.ofSame {S : Addr → Prop} {F H H' : Hp} (h : Same F H) (s : Same H H') : Stp S F H F H' := ⟨Same.refl F, h.trans s, fun _ _ _ => rfl, fun b o _ e => s b o e, fun b o e => ⟨o, s b o e⟩⟩
theorem Src.st0 {F H F' H' : Hp} {p : Addr} (h : Src F H p) (st : Stp S0 F H F' H') : Src F' H' p := let ⟨_, b, x, y, e, z⟩ := h; ⟨st.fh, (st.fo _ _ e).trans b, x, y, st.same _ _ e, z⟩
theorem Stp.none {S : Addr → Prop} {F H F1 H1 : Hp} {f : Addr} (t : Stp S F H F1 H1) (h : H1 f = none) : H f = none := by
  cases e : H f with
  | none => rfl
  | some o =>
    obtain ⟨o', e'⟩ := t.dom f o e
    rw [h] at e'; cases e'
/-- a new thing beside the source, not frozen -/
theorem scr {F0 F H H0 H2 : Hp} {p q : Addr} {o : HO} (s : Src F H p) (t : Stp (S1 p) F0 H0 F H) (hq : H q = none) (e : upd H q o = H2) :
    Src F H2 p ∧ Stp (S1 p) F0 H0 F H2 ∧ Same H H2 ∧ H2 q = some o ∧ q ≠ p ∧ F q = none ∧ H0 q = none := by
  subst e
  have n := (s.ne hq).symm
  exact ⟨s.upd n (s.1.free hq), t.trans (Stp.cell s.1 hq), (Stp.new (S := S0) (Same.refl _) hq).same, upd_same, n, s.1.free hq, t.none hq⟩
/-- a new thing, frozen -/
theorem frz {F0 F H H0 H2 : Hp} {p q : Addr} {o : HO} (s : Src F H p) (t : Stp (S1 p) F0 H0 F H) (hq : H q = none) (e : upd H q o = H2) :
    ∃ F2, Src F2 H2 p ∧ Stp (S1 p) F0 H0 F2 H2 ∧ Same F F2 ∧ Same H H2 ∧ F2 q = some o ∧ (∀ b o', H b = some o' → F2 b = F b) := by
  subst e
  have n := Stp.new (S := S1 p) (o := o) s.1 hq
  exact ⟨upd F q o, s.new hq, t.trans n, n.ff, (Stp.new (S := S0) (Same.refl _) hq).same, upd_same, n.fo⟩
/-- a callee's new thing, frozen -/
theorem gotZ {F0 F H H0 H2 : Hp} {p q : Addr} {o : HO} (s : Src F H p) (t : Stp (S1 p) F0 H0 F H) (e : Same H H2) (hq : H q = none) (h : H2 q = some o) :
    ∃ F2, Src F2 H2 p ∧ Stp (S1 p) F0 H0 F2 H2 ∧ Same F F2 ∧ F2 q = some o ∧ (∀ b o', H b = some o' → F2 b = F b) := by
  have g := Stp.got (S := S1 p) s.1 e hq h
  refine ⟨upd F q o, ?_, t.trans g, g.ff, upd_same, g.fo⟩
  have s2 := s.of e
  obtain ⟨_, b, x, y, z, w⟩ := s2
  exact ⟨g.fh, by rw [upd_ne (s.ne hq)]; exact b, x, y, z, w⟩
/-- a callee's steps -/
theorem stpZ {F0 F H H0 F2 H2 : Hp} {p : Addr} (s : Src F H p) (t : Stp (S1 p) F0 H0 F H) (g : Stp S0 F H F2 H2) : Src F2 H2 p ∧ Stp (S1 p) F0 H0 F2 H2 := ⟨s.st0 g, t.trans g.up⟩
theorem sameZ {F0 F H H0 H2 : Hp} {p : Addr} (s : Src F H p) (t : Stp (S1 p) F0 H0 F H) (e : Same H H2) : Src F H2 p ∧ Stp (S1 p) F0 H0 F H2 := ⟨s.of e, t.trans (.ofSame s.1 e)⟩
/-- a cell made here is written -/
theorem wrZ {F0 F H H0 : Hp} {p q : Addr} {o : HO} (s : Src F H p) (t : Stp (S1 p) F0 H0 F H) (n : q ≠ p) (fq : F q = none) (h0 : H0 q = none) : Src F (upd H q o) p ∧ Stp (S1 p) F0 H0 F (upd H q o) := ⟨s.upd n fq, t.wrNew h0 fq⟩
/-- a cell made here stands still from now on -/
theorem keepZ {F0 F H H0 : Hp} {p q : Addr} {o : HO} (s : Src F H p) (t : Stp (S1 p) F0 H0 F H) (n : q ≠ p) (fq : F q = none) (h0 : H0 q = none) (h : H q = some o) : ∃ F2, Src F2 H p ∧ Stp (S1 p) F0 H0 F2 H ∧ Same F F2 ∧ F2 q = some o ∧ (∀ b, b ≠ q → F2 b = F b) := by
  have g := t.freeze h0 h fq
  refine ⟨upd F q o, s.frz n.symm g.fh, g, fun b u e => ?_, upd_same, fun b nb => upd_ne nb⟩
  rw [upd_ne (ne_of_none e fq)]; exact e
theorem inV_notin {K : PySem.W.Frag} {H : Hp} {Q : VK} {a : Addr} {ns : List Int} {x : Int} (h : SqL K H a (ns.map V.int)) (q : Q (.bl (!decide (x ∈ ns))) H) : rIn K true (.int x) (.ref a) H Q :=
  ⟨a, _, rfl, .inl h, rfl, flat_ints ns, by rw [if_pos rfl, inV_ints]; exact q⟩
/-- lists that stand -/
inductive LV (H : Hp) : List V → List (List V) → Prop
  | nil : LV H [] []
  | cons {a : Addr} {l : List V} {vs : List V} {ls : List (List V)} : H a = some (.lst l) → LV H vs ls → LV H (.ref a :: vs) (l :: ls)
abbrev RL (H : Hp) (vs : List V) (ls : List (List Int)) : Prop := LV H vs (ls.map (·.map V.int))
theorem LV.mono {H H' : Hp} (s : Same H H') : ∀ {vs : List V} {ls : List (List V)}, LV H vs ls → LV H' vs ls
  | _, _, .nil => .nil
  | _, _, .cons h r => .cons (s _ _ h) (r.mono s)
theorem LV.len {H : Hp} : ∀ {vs : List V} {ls : List (List V)}, LV H vs ls → vs.length = ls.length
  | _, _, .nil => rfl
  | _, _, .cons _ r => by simp [r.len]
theorem LV.app {H : Hp} {ws : List V} {ms : List (List V)} : ∀ {vs : List V} {ls : List (List V)}, LV H vs ls → LV H ws ms → LV H (vs ++ ws) (ls ++ ms)
  | _, _, .nil, h2 => h2
  | _, _, .cons h r, h2 => .cons h (r.app h2)
theorem LV.snoc {H : Hp} {vs : List V} {ls : List (List V)} {a : Addr} {l : List V} (r : LV H vs ls) (h : H a = some (.lst l)) : LV H (vs ++ [.ref a]) (ls ++ [l]) := r.app (.cons h .nil)
theorem LV.take {H : Hp} : ∀ (n : Nat) {vs : List V} {ls : List (List V)}, LV H vs ls → LV H (vs.take n) (ls.take n)
  | 0, _, _, _ => by simp only [List.take_zero]; exact .nil
  | n + 1, _, _, .nil => .nil
  | n + 1, _, _, .cons h r => .cons h (r.take n)
theorem LV.drop {H : Hp} : ∀ (n : Nat) {vs : List V} {ls : List (List V)}, LV H vs ls → LV H (vs.drop n) (ls.drop n)
  | 0, _, _, r => r
  | n + 1, _, _, .nil => .nil
  | n + 1, _, _, .cons _ r => r.drop n
theorem LV.get {H : Hp} : ∀ {vs : List V} {ls : List (List V)} (i : Nat) {v : V}, LV H vs ls → vs[i]? = some v → ∃ a l, v = .ref a ∧ ls[i]? = some l ∧ H a = some (.lst l)
  | _, _, i, _, .nil, e => by simp at e
  | _, _, 0, _, .cons h _, e => ⟨_, _, (Option.some.inj e).symm, rfl, h⟩
  | _, _, i + 1, _, .cons _ r, e => r.get i e
theorem RL.get {H : Hp} {vs : List V} {ls : List (List Int)} (r : RL H vs ls) (i : Nat) {v : V} (e : vs[i]? = some v) : ∃ a l, v = .ref a ∧ ls[i]? = some l ∧ H a = some (.lst (l.map V.int)) := by
  obtain ⟨a, l, rfl, e2, h⟩ := LV.get i r e
  rw [List.getElem?_map] at e2
  cases z : ls[i]? with
  | none => rw [z] at e2; cases e2
  | some m => rw [z] at e2; cases e2; exact ⟨a, m, rfl, rfl, h⟩
theorem RL.len {H : Hp} {vs : List V} {ls : List (List Int)} (r : RL H vs ls) : vs.length = ls.length := by rw [LV.len r, List.length_map]
theorem RL.take {H : Hp} {vs : List V} {ls : List (List Int)} (n : Nat) (r : RL H vs ls) : RL H (vs.take n) (ls.take n) := by
  have := LV.take n r
  rwa [← List.map_take] at this
theorem RL.drop {H : Hp} {vs : List V} {ls : List (List Int)} (n : Nat) (r : RL H vs ls) : RL H (vs.drop n) (ls.drop n) := by
  have := LV.drop n r
  rwa [← List.map_drop] at this
theorem RL.snoc {H : Hp} {vs : List V} {ls : List (List Int)} {a : Addr} {l : List Int} (r : RL H vs ls) (h : H a = some (.lst (l.map V.int))) : RL H (vs ++ [.ref a]) (ls ++ [l]) := by
  have := LV.snoc r h
  rwa [show (ls.map (·.map V.int)) ++ [l.map V.int] = (ls ++ [l]).map (·.map V.int) by simp] at this
theorem RL.app {H : Hp} {vs ws : List V} {ls ms : List (List Int)} (r : RL H vs ls) (r2 : RL H ws ms) : RL H (vs ++ ws) (ls ++ ms) := by
  have := LV.app r r2
  rwa [← List.map_append] at this
/-! ### steps with tables of code objects -/
def ZT (T : Tbs) (F H : Hp) (p : Addr) : Prop := Src F H p ∧ NoT F ∧ LamX.Tabs T H
theorem notbl_lst {xs : List V} : ∀ ps, HO.lst xs ≠ .tbl ps := fun _ z => by cases z
section
variable {T : Tbs} {F F' H H2 : Hp} {p q : Addr} {o : HO}
theorem ZT.of (z : ZT T F H p) (e : Same H H2) : ZT T F H2 p := ⟨z.1.of e, z.2.1, z.2.2.ext e⟩
theorem ZT.ext (z : ZT T F H p) (x : LamX.ExtN H H2) (t : LamX.Tabs T H2) : ZT T F H2 p := ⟨z.1.ext z.2.1 x, z.2.1, t⟩
theorem ZT.fh (z : ZT T F H p) : Same F H := z.1.1
theorem ZT.draw (z : ZT T F H p) (s : Src F H2 p) (st : Stp (S1 p) F H F H2) : ZT T F H2 p := ⟨s, z.2.1, z.1.tabs z.2.2 st⟩
theorem NoT.at' {F : Hp} {b : Addr} {o : HO} (n : NoT F) (h : F b = some o) : ∀ ps, o ≠ .tbl ps := fun ps z => n b ps (by rw [h, z])
theorem cut_rl {F : Hp} : ∀ {vs : List V} {ls : List (List V)}, LV F vs ls → LV (cutT F) vs ls
  | _, _, .nil => .nil
  | _, _, .cons h r => .cons (cutT_at h fun ps z => by cases z) (cut_rl r)
theorem cut_ff {F F' : Hp} (n : NoT F) (s : Same F F') : Same F (cutT F') := fun b o h => cutT_at (s b o h) (n.at' h)
/-- a callee's steps -/
theorem ZT.stp (z : ZT T F H p) (g : Stp S0 F H F' H2) : ZT T (cutT F') H2 p ∧ Same F (cutT F') := ⟨⟨(z.1.st0 g).cut, cutT_no _, z.2.2.ext g.same⟩, cut_ff z.2.1 g.ff⟩
/-- a new thing, frozen -/
theorem ZT.frz (z : ZT T F H p) (hq : H q = none) (e : upd H q o = H2) (no : ∀ ps, o ≠ .tbl ps) : ∃ F2, ZT T F2 H2 p ∧ Same F F2 ∧ Same H H2 ∧ F2 q = some o ∧ (∀ b o', H b = some o' → F2 b = F b) := by
  subst e
  have n := Stp.new (S := S1 p) (o := o) z.1.1 hq
  have s := (Stp.new (S := S0) (o := o) (Same.refl H) hq).same
  exact ⟨upd F q o, ⟨z.1.new hq, z.2.1.new no, z.2.2.ext s⟩, n.ff, s, upd_same, n.fo⟩
/-- a callee's new thing, frozen -/
theorem ZT.got (z : ZT T F H p) (e : Same H H2) (hq : H q = none) (h : H2 q = some o) (no : ∀ ps, o ≠ .tbl ps) : ∃ F2, ZT T F2 H2 p ∧ Same F F2 ∧ F2 q = some o ∧ (∀ b o', H b = some o' → F2 b = F b) := by
  have g := Stp.got (S := S1 p) z.1.1 e hq h
  refine ⟨upd F q o, ⟨?_, z.2.1.new no, z.2.2.ext e⟩, g.ff, upd_same, g.fo⟩
  obtain ⟨_, b, x, y, w, v⟩ := z.1.of e
  exact ⟨g.fh, by rw [upd_ne (z.1.ne hq)]; exact b, x, y, w, v⟩
end
/-- a thing that stands beside the source is frozen -/
theorem ZT.hold {T : Tbs} {F H : Hp} {p q : Addr} {xs : List V} (z : ZT T F H p) (h : H q = some (.lst xs)) (n : q ≠ p) (hF : F q = none ∨ F q = some (.lst xs)) : ∃ F2, ZT T F2 H p ∧ Same F F2 ∧ F2 q = some (.lst xs) := by
  obtain ⟨⟨a, b, x, y, w, v⟩, c, d⟩ := z
  have hs : Same F (upd F q (.lst xs)) := fun r o e => by
    by_cases hr : r = q
    · subst hr
      rw [upd_same]
      rcases hF with hF | hF
      · rw [hF] at e; cases e
      · rw [hF] at e; exact e
    · rw [upd_ne hr]; exact e
  refine ⟨upd F q (.lst xs), ⟨⟨fun r o e => ?_, by rw [upd_ne n.symm]; exact b, x, y, w, v⟩, c.new notbl_lst, d⟩, hs, upd_same⟩
  by_cases hr : r = q
  · subst hr; rw [upd_same] at e; cases e; exact h
  · rw [upd_ne hr] at e; exact a r o e
theorem sameX {H H2 : Hp} (e : Same H H2) : LamX.ExtN H H2 := .of e
theorem notbl_tup {xs : List V} : ∀ ps, HO.tup xs ≠ .tbl ps := fun _ z => by cases z
open PySem L2
/-! one step that needs no thought -/
local macro_rules | `(tactic| walk_at "cond") => `(tactic| first
  | decide
  | exact .inl ⟨by decide, by decide⟩
  | exact .inr ⟨by decide, by decide⟩
  | exact ⟨by decide, by decide⟩
  | exact ⟨by decide, by decide, by decide⟩
  | assumption
  | (show (0 : Int) < _; omega)
  | (show (0 : Int) ≤ _; omega)
  | exact .inl ⟨by omega, by omega⟩
  | exact .inr ⟨by omega, by omega⟩
  | exact ⟨by omega, by omega⟩
  | exact ⟨by omega, by omega, by omega⟩)
local macro_rules | `(tactic| walk_at "sq") => `(tactic| first
  | assumption
  | exact SqL.of (by assumption)
  | exact SqT.of (by assumption)
  | exact SqL.of upd_same
  | exact SqT.of upd_same)
local macro_rules | `(tactic| walk_at "r1") => `(tactic| first
  | (with_reducible refine s_seq ?_)
  | (with_reducible refine s_next ?_)
  | (with_reducible refine s_asg ?_)
  | (with_reducible refine s_gname ?_)
  | (with_reducible refine s_ret ?_)
  | (with_reducible refine s_if ?_)
  | (with_reducible refine s_drop ?_)
  | (with_reducible refine s_op ?_)
  | (with_reducible refine s_c ?_)
  | (with_reducible refine s_tup ?_)
  | (with_reducible refine s_lst ?_)
  | (with_reducible refine s_nil ?_)
  | (with_reducible refine s_cons ?_)
  | (with_reducible refine s_call ?_)
  | (with_reducible refine s_cb ?_)
  | (with_reducible refine s_test ?_)
  | (with_reducible refine s_tB ?_)
  | (with_reducible refine s_b ?_)
  | (with_reducible refine s_not ?_)
  | (with_reducible refine s_and ?_)
  | (with_reducible refine s_or ?_)
  | (with_reducible refine s_un ?_)
  | (with_reducible refine s_U ?_)
  | (with_reducible refine s_ifE ?_)
  | (with_reducible refine s_andV0 ?_)
  | (with_reducible refine s_orV0 ?_)
  | (with_reducible refine s_notV ?_)
  | (with_reducible refine s_I0 ?_)
  | (with_reducible refine s_chain ?_)
  | (with_reducible refine s_par3 ?_)
  | (with_reducible refine s_par ?_)
  | (with_reducible refine s_v2 ?_)
  | (with_reducible refine s_v3 ?_)
  | (with_reducible refine s_eqI ?_)
  | (with_reducible refine s_neI ?_)
  | (with_reducible refine s_eqS ?_)
  | (with_reducible refine s_neS ?_)
  | (with_reducible refine s_max2 ?_)
  | (with_reducible refine s_min2 ?_)
  | (with_reducible refine s_int1 ?_)
  | (with_reducible refine s_int1b ?_)
  | ((with_reducible refine' s_var ?h ?q); (case h => rfl))
  | (with_reducible refine s_for ?_)
  | (with_reducible refine s_iR1 ?_)
  | (with_reducible refine s_iR2 ?_)
  | (with_reducible refine s_iR3 ?_)
  | (with_reducible refine s_sl ?_)
  | (with_reducible refine s_part ?_)
  | (with_reducible refine s_nopart ?_)
  | (with_reducible refine s_iL ?_)
  | (with_reducible refine s_iT ?_)
  | (with_reducible refine s_iS ?_)
  | (with_reducible refine s_lc ?_)
  | (with_reducible refine s_yes ?_)
  | ((with_reducible refine' s_wipe ?h ?q); (case h => rfl))
  | (with_reducible refine s_callK0 ?_)
  | (with_reducible refine s_bits ?_)
  | (with_reducible refine s_i ?_)
  | (with_reducible refine s_bm ?_)
  | (with_reducible refine s_bm0 ?_)
  | (with_reducible refine s_m1 ?_)
  | (with_reducible refine s_callK ?_)
  | (with_reducible refine s_gsub ?_)
  | ((with_reducible refine' s_gtup ?h ?e ?q); (case h => walk_at "sq"); (case e => rfl))
  | (with_reducible refine s_gcons ?_)
  | (with_reducible refine s_gnil ?_)
  | ((with_reducible refine s_I ?c ?q); (case c => walk_at "cond"))
  | ((with_reducible refine' s_ixL ?h ?a ?q); (case h => walk_at "sq"); (case a => rfl))
  | ((with_reducible refine' s_ixT ?h ?a ?q); (case h => walk_at "sq"); (case a => rfl))
  | ((with_reducible refine' s_setL ?h ?a ?q); (case h => first | assumption | exact upd_same); (case a => rfl))
  | ((with_reducible refine' s_len ?h ?q); (case h => walk_at "sq"))
  | ((with_reducible refine' s_lenT ?h ?q); (case h => walk_at "sq"))
  | (with_reducible refine iteT ?_)
  | (with_reducible refine iteF ?_)
  | (with_reducible refine itNF ?_)
  | (with_reducible refine itNT ?_))
local macro_rules | `(tactic| walk_at "r") => `(tactic| (repeat walk_at "r1"))
local macro_rules | `(tactic| walk_at "r1") => `(tactic| (with_reducible refine s_fmtB ?_))
local macro_rules | `(tactic| walk_at "r1") => `(tactic| (with_reducible refine s_callS ?_))
def topS (i : Nat) : Stmt := PySem.Challenge.pw_narrowingbits_k62_cells_refused.main.body.getD i (.Pass ⟨0, 0, 0, 0⟩)
structure Zs (K : PySem.W.Frag) (mg : Str → Option Value) : Prop where
  z_bool : mg "bool" = none
  z_divmod : mg "divmod" = none
  z_enumerate : mg "enumerate" = none
  z_int : mg "int" = none
  z_isinstance : mg "isinstance" = none
  z_len : mg "len" = none
  z_list : mg "list" = none
  z_max : mg "max" = none
  z_min : mg "min" = none
  z_range : mg "range" = none
  z_sum : mg "sum" = none
  z_zip : mg "zip" = none
  e_CELL_SIZE : ∃ t, mg "CELL_SIZE" = some (.int (56) t)
  e_CHECK_SIZE : ∃ t, mg "CHECK_SIZE" = some (.int (8) t)
  e_HIGHEST : ∃ t, mg "HIGHEST" = some (.int (128) t)
  e_LOAD_SIZE : ∃ t, mg "LOAD_SIZE" = some (.int (48) t)
  e_MOST_BITS : ∃ t, mg "MOST_BITS" = some (.int (1000000) t)
  e_MOST_GROUP : ∃ t, mg "MOST_GROUP" = some (.int (8) t)
  e_MOST_ZEROS : ∃ t, mg "MOST_ZEROS" = some (.int (40) t)
  e_STATES : ∃ t, mg "STATES" = some (.int (256) t)
  e_TURN : ∃ t, mg "TURN" = some (.int (7) t)
  x_BadBits : ExF K mg "BadBits"
  x_BadCells : ExF K mg "BadCells"
  x_NarrowError : ExF K mg "NarrowError"
  x_Outside : ExF K mg "Outside"
  s_BadBits_BadBits : PySem.W.subIn K (.ref (exA mg "BadBits")) (.ref (exA mg "BadBits")) = some true
  k_BadBits_BadBits : PySem.W.kitOne K (.ref (exA mg "BadBits")) (.ref (exA mg "BadBits")) = some true
  s_BadBits_BadCells : PySem.W.subIn K (.ref (exA mg "BadBits")) (.ref (exA mg "BadCells")) = some false
  k_BadBits_BadCells : PySem.W.kitOne K (.ref (exA mg "BadBits")) (.ref (exA mg "BadCells")) = some false
  s_BadBits_NarrowError : PySem.W.subIn K (.ref (exA mg "BadBits")) (.ref (exA mg "NarrowError")) = some true
  k_BadBits_NarrowError : PySem.W.kitOne K (.ref (exA mg "BadBits")) (.ref (exA mg "NarrowError")) = some true
  s_BadBits_Outside : PySem.W.subIn K (.ref (exA mg "BadBits")) (.ref (exA mg "Outside")) = some false
  k_BadBits_Outside : PySem.W.kitOne K (.ref (exA mg "BadBits")) (.ref (exA mg "Outside")) = some false
  s_BadCells_BadBits : PySem.W.subIn K (.ref (exA mg "BadCells")) (.ref (exA mg "BadBits")) = some false
  k_BadCells_BadBits : PySem.W.kitOne K (.ref (exA mg "BadCells")) (.ref (exA mg "BadBits")) = some false
  s_BadCells_BadCells : PySem.W.subIn K (.ref (exA mg "BadCells")) (.ref (exA mg "BadCells")) = some true
  k_BadCells_BadCells : PySem.W.kitOne K (.ref (exA mg "BadCells")) (.ref (exA mg "BadCells")) = some true
  s_BadCells_NarrowError : PySem.W.subIn K (.ref (exA mg "BadCells")) (.ref (exA mg "NarrowError")) = some true
  k_BadCells_NarrowError : PySem.W.kitOne K (.ref (exA mg "BadCells")) (.ref (exA mg "NarrowError")) = some true
  s_BadCells_Outside : PySem.W.subIn K (.ref (exA mg "BadCells")) (.ref (exA mg "Outside")) = some false
  k_BadCells_Outside : PySem.W.kitOne K (.ref (exA mg "BadCells")) (.ref (exA mg "Outside")) = some false
  s_NarrowError_BadBits : PySem.W.subIn K (.ref (exA mg "NarrowError")) (.ref (exA mg "BadBits")) = some false
  k_NarrowError_BadBits : PySem.W.kitOne K (.ref (exA mg "NarrowError")) (.ref (exA mg "BadBits")) = some false
  s_NarrowError_BadCells : PySem.W.subIn K (.ref (exA mg "NarrowError")) (.ref (exA mg "BadCells")) = some false
  k_NarrowError_BadCells : PySem.W.kitOne K (.ref (exA mg "NarrowError")) (.ref (exA mg "BadCells")) = some false
  s_NarrowError_NarrowError : PySem.W.subIn K (.ref (exA mg "NarrowError")) (.ref (exA mg "NarrowError")) = some true
  k_NarrowError_NarrowError : PySem.W.kitOne K (.ref (exA mg "NarrowError")) (.ref (exA mg "NarrowError")) = some true
  s_NarrowError_Outside : PySem.W.subIn K (.ref (exA mg "NarrowError")) (.ref (exA mg "Outside")) = some false
  k_NarrowError_Outside : PySem.W.kitOne K (.ref (exA mg "NarrowError")) (.ref (exA mg "Outside")) = some false
  s_Outside_BadBits : PySem.W.subIn K (.ref (exA mg "Outside")) (.ref (exA mg "BadBits")) = some false
  k_Outside_BadBits : PySem.W.kitOne K (.ref (exA mg "Outside")) (.ref (exA mg "BadBits")) = some false
  s_Outside_BadCells : PySem.W.subIn K (.ref (exA mg "Outside")) (.ref (exA mg "BadCells")) = some false
  k_Outside_BadCells : PySem.W.kitOne K (.ref (exA mg "Outside")) (.ref (exA mg "BadCells")) = some false
  s_Outside_NarrowError : PySem.W.subIn K (.ref (exA mg "Outside")) (.ref (exA mg "NarrowError")) = some true
  k_Outside_NarrowError : PySem.W.kitOne K (.ref (exA mg "Outside")) (.ref (exA mg "NarrowError")) = some true
  s_Outside_Outside : PySem.W.subIn K (.ref (exA mg "Outside")) (.ref (exA mg "Outside")) = some true
  k_Outside_Outside : PySem.W.kitOne K (.ref (exA mg "Outside")) (.ref (exA mg "Outside")) = some true
theorem Zs.c_CELL_SIZE {K : PySem.W.Frag} {mg : Str → Option Value} (Z : Zs K mg) : mg "CELL_SIZE" = some (.int (56) (Classical.choose Z.e_CELL_SIZE)) := Classical.choose_spec Z.e_CELL_SIZE
theorem Zs.c_CHECK_SIZE {K : PySem.W.Frag} {mg : Str → Option Value} (Z : Zs K mg) : mg "CHECK_SIZE" = some (.int (8) (Classical.choose Z.e_CHECK_SIZE)) := Classical.choose_spec Z.e_CHECK_SIZE
theorem Zs.c_HIGHEST {K : PySem.W.Frag} {mg : Str → Option Value} (Z : Zs K mg) : mg "HIGHEST" = some (.int (128) (Classical.choose Z.e_HIGHEST)) := Classical.choose_spec Z.e_HIGHEST
theorem Zs.c_LOAD_SIZE {K : PySem.W.Frag} {mg : Str → Option Value} (Z : Zs K mg) : mg "LOAD_SIZE" = some (.int (48) (Classical.choose Z.e_LOAD_SIZE)) := Classical.choose_spec Z.e_LOAD_SIZE
theorem Zs.c_MOST_BITS {K : PySem.W.Frag} {mg : Str → Option Value} (Z : Zs K mg) : mg "MOST_BITS" = some (.int (1000000) (Classical.choose Z.e_MOST_BITS)) := Classical.choose_spec Z.e_MOST_BITS
theorem Zs.c_MOST_GROUP {K : PySem.W.Frag} {mg : Str → Option Value} (Z : Zs K mg) : mg "MOST_GROUP" = some (.int (8) (Classical.choose Z.e_MOST_GROUP)) := Classical.choose_spec Z.e_MOST_GROUP
theorem Zs.c_MOST_ZEROS {K : PySem.W.Frag} {mg : Str → Option Value} (Z : Zs K mg) : mg "MOST_ZEROS" = some (.int (40) (Classical.choose Z.e_MOST_ZEROS)) := Classical.choose_spec Z.e_MOST_ZEROS
theorem Zs.c_STATES {K : PySem.W.Frag} {mg : Str → Option Value} (Z : Zs K mg) : mg "STATES" = some (.int (256) (Classical.choose Z.e_STATES)) := Classical.choose_spec Z.e_STATES
theorem Zs.c_TURN {K : PySem.W.Frag} {mg : Str → Option Value} (Z : Zs K mg) : mg "TURN" = some (.int (7) (Classical.choose Z.e_TURN)) := Classical.choose_spec Z.e_TURN
/-! ### the promises -/
def gK2 {α : Type} (us ws : List α) : List α := match us, ws with
  | [], [a, b] => [b, a]
  | _, _ => []
/-- two keywords, the second one first -/
theorem _root_.L2.Fun.kbinds2 {K : PySem.W.Frag} {x qual : Str} {st : Stmt} {f : Addr} {fd : FuncData} {ps : List Str} (F : Fun K x qual st f fd) (ks : List Str) (hn : ps.length = 2)
    (h : ∀ (kV doc pm : Value) (an : Option Addr) (cdv ct : Value) (a b : Value), bindArgs (PySem.W.fnOf x qual (defArgs st) (defBody st) (defScope st) .none kV doc pm an cdv ct) ⟨[], ks.zip [a, b]⟩ = pure (ps.zip [b, a])) :
    KBinds K fd ps ks gK2 gK2 := by
  obtain ⟨oc, od, kV, doc, pm, an, cdv, ct, osl, rfl, lk, hcd⟩ := F.ex
  refine ⟨fun s us ws _ hl => ?_, fun {vs us zs ws} r rz => ?_⟩
  · match us, ws, hl with
    | [], [a, b], _ => exact .of_eq (h kV doc pm an cdv ct a b)
    | [], [], hl => exact absurd (show 0 = ps.length from hl) (by omega)
    | [], [_], hl => exact absurd (show 0 = ps.length from hl) (by omega)
    | [], _ :: _ :: _ :: _, hl => exact absurd (show 0 = ps.length from hl) (by omega)
    | _ :: _, _, hl => exact absurd (show 0 = ps.length from hl) (by omega)
  · cases r with
    | cons _ _ => exact .nil
    | nil =>
      cases rz with
      | nil => exact .nil
      | cons r1 rz =>
        cases rz with
        | nil => exact .nil
        | cons r2 rz =>
          cases rz with
          | nil => exact .cons r2 (.cons r1 .nil)
          | cons _ _ => exact .nil
def bitsV (w n : Nat) : List V := (fixL w n).map V.int
abbrev Bits (bs : List Int) : Prop := isBits bs
theorem c_sum {X : Cx} (K : PySem.W.Frag) (e : X.K = K) (hc : X.calm = true) : CallR X (.builtin "sum") (rSum K) := by subst e; exact cr_sum hc
theorem s_iZ {K : PySem.W.Frag} {σ : L2.St} {H : Hp} {ta : TA} {R : It → Hp → Prop} (h : ta σ H fun vs H1 => ∃ a b xs ys, vs = [.ref a, .ref b] ∧ SqL K H1 a xs ∧ SqL K H1 b ys ∧ R (Itz K a b) H1) : iZip K ta σ H R := h
theorem s_iE {K : PySem.W.Frag} {σ : L2.St} {H : Hp} {ta : TA} {R : It → Hp → Prop} (h : ta σ H fun vs H1 => ∃ a xs, vs = [.ref a] ∧ SqL K H1 a xs ∧ R (Ite K a) H1) : iEnum K ta σ H R := h
/-- a heap without a cell -/
def delH (H : Hp) (f : Addr) : Hp := fun b => if b = f then none else H b
theorem delH_same (H : Hp) (f : Addr) : Same (delH H f) H := fun b o h => by
  unfold delH at h
  split at h
  · cases h
  · exact h
theorem delH_none (H : Hp) (f : Addr) : delH H f f = none := by simp [delH]
theorem delH_at {H : Hp} {f b : Addr} {o : HO} (h : H b = some o) (n : b ≠ f) : delH H f b = some o := by simp [delH, n, h]
theorem Same.del {F H : Hp} {f : Addr} (s : Same F H) (n : F f = none) : Same F (delH H f) := fun b o h => delH_at (s b o h) (fun e => by rw [e, n] at h; cases h)
def sp_is_bit (_ : PySem.W.Frag) (_ : Str → Option Value) : Sp := SpN 1 fun vs H Q _ => ∃ b : Int, vs = [.int b] ∧ Q (.bl (goodI b)) H
def sp_check_bits (K : PySem.W.Frag) (mg : Str → Option Value) : Sp := SpN 1 fun vs H Q E => ∃ (a : Addr) (ns : List Int), vs = [.ref a] ∧ SqL K H a (ns.map V.int) ∧
  ((ns.all goodI = true ∧ Q .non H) ∨ (ns.all goodI = false ∧ E (.ref (exA mg "BadBits")) none H))
def sp_fixed (_ : PySem.W.Frag) (_ : Str → Option Value) : Sp := SpN 2 fun vs H Q _ => ∃ (n w : Int), vs = [.int n, .int w] ∧ 0 ≤ n ∧ 0 ≤ w ∧ w ≤ 10000 ∧ n.toNat < 2 ^ w.toNat ∧
  ∀ p H', Same H H' → H p = none → H' p = some (.lst (bitsV w.toNat n.toNat)) → Q (.ref p) H'
def sp_number_of (K : PySem.W.Frag) (_ : Str → Option Value) : Sp := SpN 1 fun vs H Q _ => ∃ (a : Addr) (bs : List Int), vs = [.ref a] ∧ SqL K H a (bs.map V.int) ∧ Q (.int (numL bs)) H
def sp_count_bits (_ : PySem.W.Frag) (mg : Str → Option Value) : Sp := SpN 1 fun vs H Q E => ∃ (n : Int), vs = [.int n] ∧
  ((0 ≤ n ∧ n ≤ 2199023255550 ∧ ∀ p H', Same H H' → H p = none → H' p = some (.lst ((countL n.toNat).map V.int)) → Q (.ref p) H') ∨
   (¬ (0 ≤ n ∧ n ≤ 2199023255550) ∧ E (.ref (exA mg "Great")) none H))
def sp_count_at (K : PySem.W.Frag) (_ : Str → Option Value) : Sp := SpN 2 fun vs H Q _ => ∃ (a : Addr) (bs : List Int) (n : Nat), vs = [.ref a, .int n] ∧ SqL K H a (bs.map V.int) ∧ n ≤ bs.length ∧ bs.length ≤ 10000 ∧
  ∀ p H', Same H H' → H p = none → H' p = some (.tup (cntR bs n)) → Q (.ref p) H'
def sp_check_of (K : PySem.W.Frag) (_ : Str → Option Value) : Sp := SpN 1 fun vs H Q _ => ∃ (a : Addr) (bs : List Int), vs = [.ref a] ∧ SqL K H a (bs.map V.int) ∧ Bits bs ∧
  ∀ p H', Same H H' → H p = none → H' p = some (.lst ((fixL 8 (chk bs)).map V.int)) → Q (.ref p) H'
def sp_want_group (_ : PySem.W.Frag) (mg : Str → Option Value) : Sp := SpN 1 fun vs H Q E => ∃ (g : Int), vs = [.int g] ∧ ((1 ≤ g ∧ g ≤ 8 ∧ Q .non H) ∨ (¬ (1 ≤ g ∧ g ≤ 8) ∧ E (.ref (exA mg "Outside")) none H))
def sp_cut_up (K : PySem.W.Frag) (_ : Str → Option Value) : Sp := SpN 2 fun vs H Q _ => ∃ (F : Hp) (a : Addr) (xs : List V) (k : Nat), vs = [.ref a, .int k] ∧ Same F H ∧ SqL K F a xs ∧ 0 < k ∧ k < 100000 ∧ xs.length < 90000 ∧
  ∀ p F' H' acc, Stp S0 F H F' H' → F' p = some (.lst acc) → LV F' acc (chunk k xs) → Q (.ref p) H'
abbrev Lds (ls : List (List Int)) : Prop := ∀ l ∈ ls, l.length = 48 ∧ isBits l
def sp_sum_of (K : PySem.W.Frag) (_ : Str → Option Value) : Sp := SpN 1 fun vs H Q _ => ∃ (a : Addr) (us : List V) (ls : List (List Int)), vs = [.ref a] ∧ SqL K H a us ∧ RL H us ls ∧ ls ≠ [] ∧ ls.length ≤ 1000 ∧ Lds ls ∧
  ∀ p H', Same H H' → H p = none → H' p = some (.lst ((sumC ls).map V.int)) → Q (.ref p) H'
def sp_cell_of (_ : PySem.W.Frag) (_ : Str → Option Value) : Sp := SpN 1 fun vs H Q _ => ∃ (a : Addr) (l : List Int), vs = [.ref a] ∧ H a = some (.lst (l.map V.int)) ∧ isBits l ∧ l.length ≤ 1000 ∧
  ∀ p H', Same H H' → H p = none → H' p = some (.lst ((cellC l).map V.int)) → Q (.ref p) H'
def sp_is_good (K : PySem.W.Frag) (_ : Str → Option Value) : Sp := SpN 1 fun vs H Q _ => ∃ (a : Addr) (c : List Int), vs = [.ref a] ∧ SqL K H a (c.map V.int) ∧ Bits c ∧ ∀ H', Same H H' → Q (.bl (goodL c)) H'
theorem cutV_m1 (xs : List V) : cutV xs none (some (-1)) = xs.dropLast := by
  unfold cutV
  show (xs.drop 0).take (HT.sIx xs.length xs.length (some (-1)) - HT.sIx xs.length 0 none) = xs.dropLast
  rw [HT.sIx_none, List.drop_zero, List.dropLast_eq_take]
  congr 1
  show (if (-1 : Int) < 0 then ((-1 : Int) + (xs.length : Int)).toNat else min (-1 : Int).toNat xs.length) - 0 = xs.length - 1
  rw [if_pos (by decide)]
  omega
/-- lists of lists that stand, or None -/
def oV : Option Int → V
  | none => .non
  | some i => .int i
inductive LO (H : Hp) : List V → List (Option (List Int)) → Prop
  | nil : LO H [] []
  | non {vs : List V} {ls : List (Option (List Int))} : LO H vs ls → LO H (.non :: vs) (none :: ls)
  | cons {a : Addr} {l : List Int} {vs : List V} {ls : List (Option (List Int))} : H a = some (.lst (l.map V.int)) → LO H vs ls → LO H (.ref a :: vs) (some l :: ls)
theorem LO.mono {H H' : Hp} (s : Same H H') : ∀ {vs : List V} {ls : List (Option (List Int))}, LO H vs ls → LO H' vs ls
  | _, _, .nil => .nil
  | _, _, .non r => .non (r.mono s)
  | _, _, .cons h r => .cons (s _ _ h) (r.mono s)
theorem LO.len {H : Hp} : ∀ {vs : List V} {ls : List (Option (List Int))}, LO H vs ls → vs.length = ls.length
  | _, _, .nil => rfl
  | _, _, .non r => by simp [r.len]
  | _, _, .cons _ r => by simp [r.len]
theorem LO.app {H : Hp} {ws : List V} {ms : List (Option (List Int))} : ∀ {vs : List V} {ls : List (Option (List Int))}, LO H vs ls → LO H ws ms → LO H (vs ++ ws) (ls ++ ms)
  | _, _, .nil, h2 => h2
  | _, _, .non r, h2 => .non (r.app h2)
  | _, _, .cons h r, h2 => .cons h (r.app h2)
theorem LO.take {H : Hp} : ∀ (n : Nat) {vs : List V} {ls : List (Option (List Int))}, LO H vs ls → LO H (vs.take n) (ls.take n)
  | 0, _, _, _ => by simp only [List.take_zero]; exact .nil
  | n + 1, _, _, .nil => .nil
  | n + 1, _, _, .non r => .non (r.take n)
  | n + 1, _, _, .cons h r => .cons h (r.take n)
theorem LO.get {H : Hp} : ∀ {vs : List V} {ls : List (Option (List Int))} (i : Nat) {v : V}, LO H vs ls → vs[i]? = some v → (v = .non ∧ ls[i]? = some none) ∨ ∃ a l, v = .ref a ∧ ls[i]? = some (some l) ∧ H a = some (.lst (l.map V.int))
  | _, _, i, _, .nil, e => by simp at e
  | _, _, 0, _, .non _, e => .inl ⟨(Option.some.inj e).symm, rfl⟩
  | _, _, i + 1, _, .non r, e => r.get i e
  | _, _, 0, _, .cons h _, e => .inr ⟨_, _, (Option.some.inj e).symm, rfl, h⟩
  | _, _, i + 1, _, .cons _ r, e => r.get i e
theorem LO.setN {H : Hp} : ∀ {vs : List V} {ls : List (Option (List Int))} (i : Nat), LO H vs ls → LO H (vs.set i .non) (ls.set i none)
  | _, _, _, .nil => .nil
  | _, _, 0, .non r => .non r
  | _, _, i + 1, .non r => .non (r.setN i)
  | _, _, 0, .cons _ r => .non r
  | _, _, i + 1, .cons h r => .cons h (r.setN i)
theorem LO.setS {H : Hp} {a : Addr} {l : List Int} (ha : H a = some (.lst (l.map V.int))) : ∀ {vs : List V} {ls : List (Option (List Int))} (i : Nat), LO H vs ls → LO H (vs.set i (.ref a)) (ls.set i (some l))
  | _, _, _, .nil => .nil
  | _, _, 0, .non r => .cons ha r
  | _, _, i + 1, .non r => .non (r.setS ha i)
  | _, _, 0, .cons _ r => .cons ha r
  | _, _, i + 1, .cons h r => .cons h (r.setS ha i)
theorem LO.ofRL {H : Hp} : ∀ {vs : List V} {ls : List (List Int)}, RL H vs ls → LO H vs (ls.map some)
  | [], [], _ => .nil
  | [], l :: ls, r => by cases r
  | v :: vs, [], r => by cases r
  | v :: vs, l :: ls, r => by
    cases r with
    | cons h r => exact .cons h (LO.ofRL r)
theorem LO.toRL {H : Hp} : ∀ {vs : List V} {ls : List (List Int)}, LO H vs (ls.map some) → RL H vs ls
  | [], [], _ => .nil
  | [], l :: ls, r => by cases r
  | v :: vs, [], r => by cases r
  | v :: vs, l :: ls, r => by
    cases r with
    | cons h r => exact .cons h (LO.toRL r)
theorem LV.erase {H : Hp} : ∀ {vs : List V} {ls : List (List V)} (i : Nat), LV H vs ls → LV H (vs.eraseIdx i) (ls.eraseIdx i)
  | _, _, _, .nil => .nil
  | _, _, 0, .cons _ r => r
  | _, _, i + 1, .cons h r => .cons h (LV.erase i r)
theorem RL.erase {H : Hp} {vs : List V} {ls : List (List Int)} (i : Nat) (r : RL H vs ls) : RL H (vs.eraseIdx i) (ls.eraseIdx i) := by
  have := LV.erase i r
  rwa [← map_erase] at this
theorem inV_os (x : Int) (os : List (Option Int)) : inV (.int x) (os.map oV) = decide (some x ∈ os) := by
  unfold inV
  induction os with
  | nil => simp
  | cons n ns ih =>
    rw [List.map_cons, List.any_cons, ih]
    cases n with
    | none =>
      have : eqV (oV none) (.int x) = false := rfl
      rw [this]; simp
    | some i =>
      show (eqV (.int i) (.int x) || _) = _
      rw [eqV_int]
      by_cases h : i = x
      · subst h; simp
      · have h3 : ¬ x = i := fun z => h z.symm
        by_cases h2 : some x ∈ ns
        · simp [h2]
        · simp [h, h2, h3]
theorem flat_os (os : List (Option Int)) : (os.map oV).all flatV = true := by
  rw [List.all_eq_true]; intro v hv
  obtain ⟨n, _, rfl⟩ := List.mem_map.mp hv
  cases n <;> rfl
theorem flatW_os (os : List (Option Int)) : (os.map oV).all flatW = true := by
  rw [List.all_eq_true]; intro v hv
  obtain ⟨n, _, rfl⟩ := List.mem_map.mp hv
  cases n <;> rfl
/-- a number in a list of numbers and None -/
theorem s_inO {K : PySem.W.Frag} {H : Hp} {Q : VK} {a : Addr} {os : List (Option Int)} {x : Int} (h : SqL K H a (os.map oV)) (q : Q (.bl (decide (some x ∈ os))) H) : rIn K false (.int x) (.ref a) H Q :=
  ⟨a, _, rfl, .inl h, rfl, flat_os os, by rw [if_neg (by decide), inV_os]; exact q⟩
theorem oV_some (bs : List Int) : (bs.map some).map oV = bs.map V.int := by simp [oV, Function.comp_def]
abbrev Cls (cs : List (List Int)) : Prop := ∀ c ∈ cs, c.length = 56 ∧ isBits c
def sp_cells_of (K : PySem.W.Frag) (mg : Str → Option Value) : Sp := SpN 2 fun vs H Q E => ∃ (F : Hp) (a : Addr) (ns : List Int) (g : Int), vs = [.ref a, .int g] ∧ Same F H ∧ SqL K F a (ns.map V.int) ∧ ns.length < 80000 ∧
  ((ns.all goodI = false ∧ E (.ref (exA mg "BadBits")) none H) ∨ (ns.all goodI = true ∧ ¬ (1 ≤ g ∧ g ≤ 8) ∧ E (.ref (exA mg "Outside")) none H) ∨
   (ns.all goodI = true ∧ (1 ≤ g ∧ g ≤ 8) ∧ ¬ sizeOk g.toNat ns.length ∧ ∀ H', Same H H' → E (.ref (exA mg "BadCells")) none H') ∨
   (ns.all goodI = true ∧ (1 ≤ g ∧ g ≤ 8) ∧ sizeOk g.toNat ns.length ∧ ∀ p F' H' acc, Stp S0 F H F' H' → F' p = some (.lst acc) → RL F' acc (chunk 56 ns) → Q (.ref p) H'))
def sp_good (K : PySem.W.Frag) (mg : Str → Option Value) : Sp := SpN 2 fun vs H Q E => ∃ (a : Addr) (ns : List Int) (g : Int), vs = [.ref a, .int g] ∧ SqL K H a (ns.map V.int) ∧ ns.length < 80000 ∧
  ((ns.all goodI = false ∧ E (.ref (exA mg "BadBits")) none H) ∨ (ns.all goodI = true ∧ ¬ (1 ≤ g ∧ g ≤ 8) ∧ E (.ref (exA mg "Outside")) none H) ∨
   (ns.all goodI = true ∧ (1 ≤ g ∧ g ≤ 8) ∧ ¬ sizeOk g.toNat ns.length ∧ ∀ H', Same H H' → E (.ref (exA mg "BadCells")) none H') ∨
   (ns.all goodI = true ∧ (1 ≤ g ∧ g ≤ 8) ∧ sizeOk g.toNat ns.length ∧ ∀ p H', Same H H' → H p = none → H' p = some (.lst (((chunk 56 ns).map goodL).map V.bl)) → Q (.ref p) H'))
def sp_opened_group (K : PySem.W.Frag) (_ : Str → Option Value) : Sp := SpN 1 fun vs H Q _ => ∃ (F : Hp) (a : Addr) (us : List V) (cs : List (List Int)), vs = [.ref a] ∧ Same F H ∧ SqL K F a us ∧ RL F us cs ∧ 2 ≤ cs.length ∧ cs.length ≤ 9 ∧ Cls cs ∧
  ∀ p F' H' acc, Stp S0 F H F' H' → F' p = some (.lst acc) → LO F' acc (openG cs) → Q (.ref p) H'
def sp_count_told (K : PySem.W.Frag) (mg : Str → Option Value) : Sp := SpN 1 fun vs H Q E => ∃ (a : Addr) (l : List Int), vs = [.ref a] ∧ SqL K H a (l.map V.int) ∧ l.length ≤ 1000 ∧ isBits l ∧
  ((cntT l = none ∧ ∀ H', Same H H' → E (.ref (exA mg "BadCells")) none H') ∨ ∃ n p : Nat, cntT l = some (n, p) ∧ ∀ q H', Same H H' → H' q = some (.tup [.int n, .int p]) → Q (.ref q) H')
def OpQ (mg : Str → Option Value) (Q : VK) (E : XK) (H H' : Hp) : OpR → Prop
  | .bits => E (.ref (exA mg "BadBits")) none H'
  | .outside => E (.ref (exA mg "Outside")) none H'
  | .cells => E (.ref (exA mg "BadCells")) none H'
  | .non => Q .non H'
  | .told bs => ∀ p, H p = none → H' p = some (.lst (bs.map oV)) → Q (.ref p) H'
def sp_open_cells (K : PySem.W.Frag) (mg : Str → Option Value) : Sp := SpN 2 fun vs H Q E => ∃ (a : Addr) (ns : List Int) (g : Int), vs = [.ref a, .int g] ∧ SqL K H a (ns.map V.int) ∧ ns.length < 80000 ∧
  ∀ H', Same H H' → OpQ mg Q E H H' (openR g ns)
theorem ixN_of {n j : Nat} (h : j < n) : ixN n (j : Int) = some j := by
  unfold ixN
  rw [if_pos (by omega), if_pos (by omega), Int.toNat_natCast]
def sp_law_pool (K : PySem.W.Frag) (_ : Str → Option Value) : Sp := SpN 2 fun vs H Q _ => ∃ (s : Addr) (ns : List Int) (k : Int), vs = [.ref s, .int k] ∧ SqL K H s (ns.map V.int) ∧ 0 ≤ k ∧ k < 100 ∧
  ∀ p H', Src H H' p → Q (.ref p) H'
def sp_law_take (_ : PySem.W.Frag) (_ : Str → Option Value) : Sp := SpN 2 fun vs H Q _ => ∃ (F : Hp) (p : Addr) (t : Int), vs = [.ref p, .int t] ∧ Src F H p ∧ 0 < t ∧ t < 1073741824 ∧
  ∀ r H', Src F H' p → Stp (S1 p) F H F H' → 0 ≤ r → r < t → Q (.int r) H'
def sp_law_one (K : PySem.W.Frag) (_ : Str → Option Value) : Sp := SpN 2 fun vs H Q _ => ∃ (F : Hp) (p q : Addr) (ns : List Int), vs = [.ref p, .ref q] ∧ Src F H p ∧ SqL K F q (ns.map V.int) ∧ 0 < ns.length ∧ ns.length < 1000 ∧
  ∀ r H', Src F H' p → Stp (S1 p) F H F H' → r ∈ ns → Q (.int r) H'
def sp_law_count (_ : PySem.W.Frag) (_ : Str → Option Value) : Sp := SpN 1 fun vs H Q _ => ∃ (n : Nat), vs = [.int n] ∧ n ≤ 1000001 ∧
  ∀ p H', Same H H' → H p = none → H' p = some (.lst ((countL n).map V.int)) → Q (.ref p) H'
def sp_law_check (K : PySem.W.Frag) (_ : Str → Option Value) : Sp := SpN 1 fun vs H Q _ => ∃ (a : Addr) (l : List Int), vs = [.ref a] ∧ SqL K H a (l.map V.int) ∧ l.length = 48 ∧ isBits l ∧
  ∀ p H', Same H H' → H p = none → H' p = some (.lst ((fixL 8 (chk l)).map V.int)) → Q (.ref p) H'
def sp_law_sum (K : PySem.W.Frag) (_ : Str → Option Value) : Sp := SpN 1 fun vs H Q _ => ∃ (a : Addr) (us : List V) (ls : List (List Int)), vs = [.ref a] ∧ SqL K H a us ∧ RL H us ls ∧ ls.length ≤ 1000 ∧ Lds ls ∧
  ∀ p H', Same H H' → H p = none → H' p = some (.lst ((sumC ls).map V.int)) → Q (.ref p) H'
def sp_law_cells (_ : PySem.W.Frag) (_ : Str → Option Value) : Sp := SpN 2 fun vs H Q _ => ∃ (F : Hp) (a : Addr) (us : List V) (ls : List (List Int)) (g : Nat), vs = [.ref a, .int g] ∧ Same F H ∧ F a = some (.lst us) ∧ RL F us ls ∧ ls.length ≤ 1000 ∧ Lds ls ∧ 1 ≤ g ∧ g ≤ 8 ∧
  ∀ p F' H' acc, Stp S0 F H F' H' → F' p = some (.lst acc) → RL F' acc (cellsC g ls) → Q (.ref p) H'
def sp_law_loads (_ : PySem.W.Frag) (_ : Str → Option Value) : Sp := SpN 1 fun vs H Q _ => ∃ (F : Hp) (a : Addr) (t : List Int), vs = [.ref a] ∧ Same F H ∧ F a = some (.lst (t.map V.int)) ∧ t.length ≤ 2000 ∧
  ∀ p F' H' acc, Stp S0 F H F' H' → F' p = some (.lst acc) → RL F' acc (chunk 48 (padC t)) → Q (.ref p) H'
def sp_law_joined (K : PySem.W.Frag) (_ : Str → Option Value) : Sp := SpN 1 fun vs H Q _ => ∃ (a : Addr) (us : List V) (ls : List (List Int)), vs = [.ref a] ∧ SqL K H a us ∧ RL H us ls ∧ ls.length ≤ 1000 ∧ (∀ l ∈ ls, l.length = 56) ∧
  ∀ p H', Same H H' → H p = none → H' p = some (.lst (ls.flatten.map V.int)) → Q (.ref p) H'
def sp_law_bits (_ : PySem.W.Frag) (_ : Str → Option Value) : Sp := SpN 1 fun vs H Q _ => ∃ (F : Hp) (p : Addr), vs = [.ref p] ∧ Src F H p ∧
  ∀ q bs F' H', Src F' H' p → Stp (S1 p) F H F' H' → F' q = some (.lst (bs.map V.int)) → isBits bs → bs.length ≤ 400 → Q (.ref q) H'
theorem fixL_cons : ∀ (j n : Nat), fixL (j + 1) n = ((n / 2 ^ j % 2 : Nat) : Int) :: fixL j n
  | 0, n => by simp [fixL]
  | j + 1, n => by
    have e : fixL (j + 1 + 1) n = fixL (j + 1) (n / 2) ++ [((n % 2 : Nat) : Int)] := rfl
    rw [e, fixL_cons j (n / 2), Nat.div_div_eq_div_mul, ← Nat.pow_succ']
    rfl
theorem lt_blen {n j : Nat} : j < blen n ↔ 2 ^ j ≤ n := by
  unfold blen
  by_cases h : n = 0
  · subst h; simp
  · rw [if_neg h]
    have := Nat.le_log2 (n := n) (k := j) h
    omega
theorem shaped_flatL {vs : List V} (h : vs.all flatW = true) : SeqAt.shaped (.list (vs.map toD)) = true := by
  have h1 := depthAll_flat vs
  have e : (PyData.list (vs.map toD)).depth = PyData.depthAll (vs.map toD) + 1 := by rw [PyData.depth]
  exact Bool.and_eq_true_iff.mpr ⟨by rw [PyData.canLay0]; exact canLay_flat vs h, decide_eq_true (by rw [e]; omega)⟩
theorem s_neFl {K : PySem.W.Frag} {H : Hp} {Q : VK} {a b : Addr} {vs : List V} (h1 : SqL K H a vs) (h2 : SqL K H b vs) (f : vs.all flatW = true) (q : Q (.bl false) H) : rNeD K (.ref a) (.ref b) H Q :=
  ⟨_, _, .lst h1 (dp_flats f), .lst h2 (dp_flats f), shaped_flatL f, shaped_flatL f, by rw [SeqAt.eqv_refl _ (SeqAt.canLay_of_shaped (shaped_flatL f))]; exact q⟩
theorem at_nat' {xs : List V} {j : Nat} {v : V} (h : xs[j]? = some v) : atI xs (j : Int) = some v := atI_nat h
theorem chunk_cover {k n : Nat} (hk : 0 < k) : n ≤ (n + k - 1) / k * k := by
  have h := Nat.div_add_mod (n + k - 1) k
  have h2 := Nat.mod_lt (n + k - 1) hk
  rw [Nat.mul_comm] at h
  omega
theorem chunk_under {k n i : Nat} (hk : 0 < k) (hi : i < (n + k - 1) / k) : i * k < n := by
  have h : (i + 1) * k ≤ n + k - 1 := Nat.le_trans (Nat.mul_le_mul_right k hi) (Nat.div_mul_le_self _ _)
  rw [Nat.succ_mul] at h
  omega
theorem cells_facts {g : Nat} {bs : List Int} (g0 : 0 < g) (hb : isBits bs) (hl : bs.length ≤ 400) :
    (∀ l ∈ loadsC bs, l.length = 48 ∧ isBits l) ∧ (∀ c ∈ cellsC g (loadsC bs), ∃ l, c = cellC l ∧ l.length = 48 ∧ isBits l) ∧ 0 < (cellsC g (loadsC bs)).length ∧ (cellsC g (loadsC bs)).length ≤ 20 ∧ (cellsC g (loadsC bs)).length % (g + 1) ≠ 1 := by
  have lds := loads_ok hb (by omega)
  have hcs := countL_short hl
  have htl := toldC_length bs
  have hLn := loads_length bs
  have h0 : 0 < (countL bs.length).length := by
    have := blen_pos (n := bs.length + 1) (by omega)
    rw [countL_length]; omega
  have hL0 : 0 < (loadsC bs).length := by omega
  have hLne : loadsC bs ≠ [] := List.length_pos_iff.mp hL0
  have hcl := cells_le g0 (loadsC bs)
  refine ⟨lds, fun c hc => ?_, cells_pos g0 hLne, by omega, cells_mod g0 hLne⟩
  unfold cellsC at hc
  obtain ⟨b, hb, hc⟩ := List.mem_flatten.mp hc
  obtain ⟨s, hs, rfl⟩ := List.mem_map.mp hb
  obtain ⟨l, hl, rfl⟩ := List.mem_map.mp hc
  exact ⟨l, rfl, grp_ok g0 lds s hs l hl⟩
theorem cell_good {l : List Int} (h : l.length = 48) : goodL (cellC l) = true := decide_eq_true (by rw [cellC_drop h, cellC_take h])
theorem chd_flat {m : Nat → Bool} {cs ch : List (List Int)} (h : Chd m cs ch) : (∀ c ∈ ch, c.length = 56 ∧ isBits c) := fun c hc => by
  obtain ⟨j, hj⟩ := List.getElem?_of_mem hc
  exact (h.at' j c hj).1
theorem chd_marks {m : Nat → Bool} {cs ch : List (List Int)} (h : Chd m cs ch) : ch.map goodL = (List.range ch.length).map fun j => !m j := by
  refine List.ext_getElem? fun i => ?_
  by_cases hi : i < ch.length
  · rw [List.getElem?_map, List.getElem?_map, List.getElem?_range hi, List.getElem?_eq_getElem hi]
    show some (goodL ch[i]) = some (!m i)
    rw [(h.at' i _ (List.getElem?_eq_getElem hi)).2.1]
  · rw [List.getElem?_eq_none (by rw [List.length_map]; omega), List.getElem?_eq_none (by simp; omega)]
theorem chunk56 {ch : List (List Int)} (h : ∀ c ∈ ch, c.length = 56 ∧ isBits c) : chunk 56 ch.flatten = ch := chunk_blocks (by decide) _ (Blk.whole (by decide) _ fun c hc => (h c hc).1)
theorem size_ok {g : Nat} {ch : List (List Int)} (h : ∀ c ∈ ch, c.length = 56 ∧ isBits c) (h0 : 0 < ch.length) (hm : ch.length % (g + 1) ≠ 1) : ch.flatten.all goodI = true ∧ ch.flatten.length = ch.length * 56 ∧ sizeOk g ch.flatten.length := by
  have hfl := flat_len ch fun c hc => (h c hc).1
  refine ⟨all_good.mpr (flat_bits _ fun c hc => (h c hc).2), hfl, by omega, by omega, ?_⟩
  rw [show ch.flatten.length / 56 = ch.length by omega]; exact hm
theorem s_eqFl {K : PySem.W.Frag} {H : Hp} {Q : VK} {a b : Addr} {vs : List V} (h1 : SqL K H a vs) (h2 : SqL K H b vs) (f : vs.all flatW = true) (q : Q (.bl true) H) : rEqD K (.ref a) (.ref b) H Q :=
  ⟨_, _, .lst h1 (dp_flats f), .lst h2 (dp_flats f), shaped_flatL f, shaped_flatL f, by rw [SeqAt.eqv_refl _ (SeqAt.canLay_of_shaped (shaped_flatL f))]; exact q⟩
def litP (L : List Nat) : List V := (L.map fun (x : Nat) => (x : Int)).map V.int
theorem litP_mem {L : List Nat} {x : Nat} : ((x : Int) ∈ L.map fun (x : Nat) => (x : Int)) ↔ x ∈ L := by
  simp only [List.mem_map]
  exact ⟨fun ⟨j, h1, h2⟩ => by rw [show x = j by omega]; exact h1, fun h => ⟨x, h, rfl⟩⟩
def mkT (x o1 o2 : Nat) (j : Nat) : Bool := decide (j = x + o1 ∨ j = x + o2)
theorem cells_len {g : Nat} (hg : 0 < g) (L : List (List Int)) : (cellsC g L).length = L.length + (chunk g L).length := by
  have h : ∀ bs : List (List (List Int)), ((bs.map grpC).flatten).length = bs.flatten.length + bs.length := by
    intro bs
    induction bs with
    | nil => rfl
    | cons b r ih =>
      rw [List.map_cons, List.flatten_cons, List.length_append, ih, List.flatten_cons, List.length_append, List.length_cons]
      have : (grpC b).length = b.length + 1 := by simp [grpC]
      omega
  have := h (chunk g L)
  rwa [chunk_flatten hg] at this
/-- the last two cells of K loads -/
theorem cells_last {g K N : Nat} (hg : 0 < g) (hK : 0 < K) (hN : N = K + (K + g - 1) / g) : ∃ i r, r < g ∧ K = i * g + r + 1 ∧ N = i * (g + 1) + r + 2 := by
  refine ⟨(K - 1) / g, (K - 1) % g, Nat.mod_lt _ hg, ?_, ?_⟩
  · have := Nat.div_add_mod (K - 1) g
    rw [Nat.mul_comm] at this
    omega
  · have h1 := Nat.div_add_mod (K - 1) g
    rw [Nat.mul_comm] at h1
    have h2 : (K + g - 1) / g = (K - 1) / g + 1 := by
      rw [show K + g - 1 = (K - 1) + g by omega, Nat.add_div_right _ hg]
    rw [hN, h2, Nat.mul_add]
    omega
def lostT (g i o1 o2 : Nat) (j : Nat) : Bool := decide ((j = i * g + o1 ∧ o1 < g) ∨ (j = i * g + o2 ∧ o2 < g))
theorem mkT_marks2 {g n i o1 o2 : Nat} (h1 : o1 < g + 1) (h2 : o2 < g + 1) (h12 : o1 ≠ o2) (hn1 : i * (g + 1) + o1 < n) (hn2 : i * (g + 1) + o2 < n) : Marks g n (mkT (i * (g + 1)) o1 o2) (lostT g i o1 o2) := fun k => by
  have key : ∀ (G : Nat) (j o : Nat), j < G → o < G → k ≠ i → k * G + j ≠ i * G + o := fun G j o hj ho hk e => by
    have e1 : (k * G + j) / G = k := by rw [Nat.mul_comm, Nat.mul_add_div (by omega), Nat.div_eq_of_lt hj]; omega
    have e2 : (i * G + o) / G = i := by rw [Nat.mul_comm, Nat.mul_add_div (by omega), Nat.div_eq_of_lt ho]; omega
    rw [e, e2] at e1
    exact hk e1.symm
  by_cases hk : k = i
  · subst hk
    refine .inr ⟨⟨o1, o2, h12, h1, h2, hn1, hn2, decide_eq_true (.inl rfl), decide_eq_true (.inr rfl)⟩, fun j hj => ?_⟩
    unfold mkT lostT
    exact decide_eq_decide.mpr (by omega)
  · refine .inl ⟨fun j j' hj hj' _ _ mj _ => ?_, fun j hj => ?_⟩
    · unfold mkT at mj
      rcases of_decide_eq_true mj with h | h
      · exact absurd h (key _ _ _ hj h1 hk)
      · exact absurd h (key _ _ _ hj h2 hk)
    · unfold lostT
      refine decide_eq_false ?_
      rintro (⟨h, ho⟩ | ⟨h, ho⟩)
      · exact key _ _ _ hj ho hk h
      · exact key _ _ _ hj ho hk h
def flipH : List Int → List Int
  | [] => []
  | x :: r => (1 - x) :: r
theorem flipH_eq (c : List Int) : flipH c = flipL (ind [0]) 0 c := by
  refine List.ext_getElem? fun i => ?_
  cases c with
  | nil => rfl
  | cons x r =>
    by_cases h : i < (x :: r).length
    · rw [flip_get h]
      cases i with
      | zero => rw [if_pos (by simp)]; rfl
      | succ i => rw [if_neg (by simp)]; exact List.getElem?_eq_getElem h
    · rw [List.getElem?_eq_none (by show (r.length + 1) ≤ i; simp at h; omega), List.getElem?_eq_none (by rw [flipL_len]; omega)]
theorem spots0 : SpotsOk [0] := ⟨by simp, by simp, .inl (by simp)⟩
/-- the last two cells changed -/
theorem chd_last {cs : List (List Int)} {N : Nat} {m : Nat → Bool} (h : ∀ c ∈ cs, ∃ l, c = cellC l ∧ l.length = 48 ∧ isBits l) (hN : cs.length = N) (hN2 : 2 ≤ N) (hm : ∀ j < N, m j = decide (N - 2 ≤ j)) :
    Chd m cs (cs.take (N - 2) ++ (cs.drop (N - 2)).map flipH) :=
  ⟨by simp; omega, fun j c hc => by
    have hj := (List.getElem?_eq_some_iff.mp hc).1
    have hjN : j < N := by simp at hj; omega
    have hcs : cs[j]? = some cs[j] := List.getElem?_eq_getElem (by omega)
    obtain ⟨l, hl, l48, lB⟩ := h _ (List.mem_of_getElem? hcs)
    by_cases h2 : j < N - 2
    · rw [List.getElem?_append_left (by rw [List.length_take]; omega), List.getElem?_take_of_lt h2] at hc
      rw [hm j hjN, decide_eq_false (by omega)]
      have e : c = cellC l := by rw [hcs] at hc; rw [← Option.some.inj hc, hl]
      subst e
      exact ⟨⟨cellC_len l48, cellC_bits lB⟩, cell_good l48, fun _ => hc⟩
    · rw [List.getElem?_append_right (by rw [List.length_take]; omega), List.length_take, show min (N - 2) cs.length = N - 2 by omega, List.getElem?_map, List.getElem?_drop, show N - 2 + (j - (N - 2)) = j by omega, hcs] at hc
      rw [hm j hjN, decide_eq_true (by omega)]
      have e : c = flipL (ind [0]) 0 (cellC l) := by
        rw [← flipH_eq, ← hl]
        exact (Option.some.inj hc).symm
      subst e
      exact ⟨⟨by rw [flipL_len]; exact cellC_len l48, flip_bits _ _ _ (cellC_bits lB)⟩, flip_bad l48 lB spots0, fun h => by cases h⟩⟩
/-- loads with a filling bit that is 1 -/
structure FillL (bs : List Int) (pl : Nat) (L' : List (List Int)) : Prop where
  ok : ∀ l ∈ L', l.length = 48 ∧ isBits l
  len : L'.length = (loadsC bs).length
  first : ∃ B r, L' = (countL bs.length ++ B) :: r
  at' : L'.flatten[((loadsC bs).length - 1) * 48 + pl]? = some 1
theorem fillL {bs : List Int} {pl : Nat} (hb : isBits bs) (hl : bs.length ≤ 400) (h48 : pl < 48) (hT : (toldC bs).length ≤ ((loadsC bs).length - 1) * 48 + pl) {A : List (List Int)} {l : List Int} (hL : loadsC bs = A ++ [l]) :
    FillL bs pl (A ++ [l.take pl ++ [1] ++ l.drop (pl + 1)]) := by
  have lds := loads_ok hb (by omega)
  have hl' := lds l (by rw [hL]; simp)
  have hlen : (l.take pl ++ [1] ++ l.drop (pl + 1)).length = 48 := by simp; omega
  have hbit : isBits (l.take pl ++ [1] ++ l.drop (pl + 1)) := fun x hx => by
    rcases List.mem_append.mp hx with hx | hx
    · rcases List.mem_append.mp hx with hx | hx
      · exact hl'.2 x (List.mem_of_mem_take hx)
      · rw [List.mem_singleton] at hx; exact .inr hx
    · exact hl'.2 x (List.mem_of_mem_drop hx)
  have hKA : (loadsC bs).length = A.length + 1 := by rw [hL]; simp
  have htl := toldC_length bs
  refine ⟨fun x hx => ?_, by rw [hKA]; simp, ?_, ?_⟩
  · rcases List.mem_append.mp hx with hx | hx
    · exact lds x (by rw [hL]; exact List.mem_append_left _ hx)
    · rw [List.mem_singleton.mp hx]; exact ⟨hlen, hbit⟩
  · obtain ⟨B, hB⟩ := loads_first hl
    rw [hL] at hB
    cases A with
    | cons x r =>
      refine ⟨B, r ++ [l.take pl ++ [1] ++ l.drop (pl + 1)], ?_⟩
      rw [show x = countL bs.length ++ B from Option.some.inj hB]; rfl
    | nil =>
      have e : l = countL bs.length ++ B := Option.some.inj hB
      have hpl : (countL bs.length).length ≤ pl := by
        rw [hKA] at hT
        simp at hT
        omega
      refine ⟨B.take (pl - (countL bs.length).length) ++ [1] ++ l.drop (pl + 1), [], ?_⟩
      show [l.take pl ++ [1] ++ l.drop (pl + 1)] = _
      congr 1
      rw [← List.append_assoc, ← List.append_assoc]
      congr 2
      rw [e, List.take_append, List.take_of_length_le hpl]
  · have hall : ∀ x ∈ A ++ [l.take pl ++ [1] ++ l.drop (pl + 1)], x.length = 48 := fun x hx => by
      rcases List.mem_append.mp hx with hx | hx
      · exact (lds x (by rw [hL]; exact List.mem_append_left _ hx)).1
      · rw [List.mem_singleton.mp hx]; exact hlen
    rw [flat_get (by decide) _ _ hall, hKA, show (A.length + 1 - 1) * 48 + pl = A.length * 48 + pl by omega, show (A.length * 48 + pl) / 48 = A.length by omega, show (A.length * 48 + pl) % 48 = pl by omega, List.getElem?_append_right (Nat.le_refl _), Nat.sub_self]
    show (l.take pl ++ [1] ++ l.drop (pl + 1))[pl]? = some 1
    rw [List.append_assoc, List.getElem?_append_right (by rw [List.length_take]; omega), List.length_take, show pl - min pl l.length = 0 by omega]
    rfl
theorem fill_cells {bs : List Int} {pl g : Nat} {L' : List (List Int)} (h : FillL bs pl L') (g0 : 0 < g) (g8 : g ≤ 8) (hl : bs.length ≤ 400) (hT : (toldC bs).length ≤ ((loadsC bs).length - 1) * 48 + pl) :
    wOp (openR (g : Int) (cellsC g L').flatten) = "cells" := by
  obtain ⟨B, r, he⟩ := h.first
  have cr := cntR_code (c := bs.length) (by omega) [] B
  rw [List.nil_append, List.length_nil, Nat.zero_add] at cr
  have htl := toldC_length bs
  rw [wOpen_some g0 g8 h.ok he (cntT_of cr (by omega))]
  exact wOp_fill (fun l hl => (h.ok l hl).1) (by omega) rfl h.at'
theorem fill_let {bs : List Int} {pl g N : Nat} {L' : List (List Int)} (h : FillL bs pl L') (g0 : 0 < g) (g8 : g ≤ 8) (hl : bs.length ≤ 400) (hK : 2 ≤ (loadsC bs).length) (hN : (cellsC g L').length = N) :
    2 ≤ N ∧ wOp (openR (g : Int) ((cellsC g L').take (N - 2) ++ ((cellsC g L').drop (N - 2)).map flipH).flatten) = "let" := by
  obtain ⟨B, r, he⟩ := h.first
  have cr := cntR_code (c := bs.length) (by omega) [] B
  rw [List.nil_append, List.length_nil, Nat.zero_add] at cr
  have htl := toldC_length bs
  have hLn := loads_length bs
  have hNl := cells_len g0 L'
  rw [chunk_len g0, hN, h.len] at hNl
  obtain ⟨i, rr, hr, hK2, hN2⟩ := cells_last g0 (by omega) hNl
  have n2 : 2 ≤ N := by omega
  refine ⟨n2, ?_⟩
  have hm : ∀ j < N, mkT (i * (g + 1)) rr (rr + 1) j = decide (N - 2 ≤ j) := fun j hj => by
    unfold mkT
    exact decide_eq_decide.mpr (by omega)
  have ch := chd_last (cells_cell g0 h.ok) hN n2 hm
  have hlen : ((cellsC g L').take (N - 2) ++ ((cellsC g L').drop (N - 2)).map flipH).length = (cellsC g L').length := by simp; omega
  have h0 : lostT g i rr (rr + 1) 0 = false := by
    unfold lostT
    refine decide_eq_false ?_
    rintro (⟨h, _⟩ | ⟨h, _⟩) <;> omega
  rw [openR_mask g0 g8 h.ok (by rw [he]; simp) ch hlen (mkT_marks2 (by omega) (by omega) (by omega) (by rw [hlen, hN]; omega) (by rw [hlen, hN]; omega)), openL_of he h0, cntT_of cr (by omega)]
  refine wOp_let (fun l hl => (h.ok l hl).1) (fun t ht hlo e => ?_) (by rw [h.len]; omega)
  have hfl := flat_len L' fun l hl => (h.ok l hl).1
  have ht2 := (List.getElem?_eq_some_iff.mp e).1
  rw [hfl, h.len] at ht2
  unfold lostT at hlo
  have := of_decide_eq_false hlo
  refine this (.inl ⟨?_, hr⟩)
  omega
def tt_law_heard (_ : PySem.W.Frag) (mg : Str → Option Value) : (XK → Hp → VK → Prop) → Hp → VK → Prop := fun tl H Q =>
  tl (fun cls d H' => d = none ∧ ((cls = .ref (exA mg "BadBits") ∧ Q (.str "bits") H') ∨ (cls = .ref (exA mg "Outside") ∧ Q (.str "outside") H') ∨ (cls = .ref (exA mg "BadCells") ∧ Q (.str "cells") H'))) H
    fun _ H1 => Q (.str "let") H1
theorem lamQ {T : Tbs} {TT : (XK → Hp → VK → Prop) → Hp → VK → Prop} {t : XK → TE} {σ : L2.St} {H : Hp} {Q : VK} (h : ∀ Q' : VK, Q' = Q → LamX.tLam T TT t σ H Q') : LamX.tLam T TT t σ H Q := h Q rfl
theorem good_word {K : PySem.W.Frag} {mg : Str → Option Value} {H : Hp} {a : Addr} {ns : List Int} {g : Int} {Q : VK} (hS : SqL K H a (ns.map V.int)) (hl : ns.length < 80000) (hQ : ∀ H', Same H H' → Q (.str (wGood g ns)) H') :
    sp_good K mg [.ref a, .int g] H (fun _ H1 => Q (.str "let") H1) (fun cls d H' => d = none ∧ ((cls = .ref (exA mg "BadBits") ∧ Q (.str "bits") H') ∨ (cls = .ref (exA mg "Outside") ∧ Q (.str "outside") H') ∨ (cls = .ref (exA mg "BadCells") ∧ Q (.str "cells") H'))) := by
  refine ⟨rfl, a, ns, g, rfl, hS, hl, ?_⟩
  unfold wGood at hQ
  by_cases c1 : ns.all goodI = false
  · rw [if_pos c1] at hQ
    exact .inl ⟨c1, rfl, .inl ⟨rfl, hQ _ (Same.refl _)⟩⟩
  rw [if_neg c1] at hQ
  have hg : ns.all goodI = true := by simpa using c1
  by_cases c2 : ¬ (1 ≤ g ∧ g ≤ 8)
  · rw [if_pos c2] at hQ
    exact .inr (.inl ⟨hg, c2, rfl, .inr (.inl ⟨rfl, hQ _ (Same.refl _)⟩)⟩)
  rw [if_neg c2] at hQ
  have c2 : 1 ≤ g ∧ g ≤ 8 := Decidable.not_not.mp c2
  by_cases c3 : ¬ sizeOk g.toNat ns.length
  · rw [if_pos c3] at hQ
    exact .inr (.inr (.inl ⟨hg, c2, c3, fun H2 e2 => ⟨rfl, .inr (.inr ⟨rfl, hQ _ e2⟩)⟩⟩))
  · rw [if_neg c3] at hQ
    exact .inr (.inr (.inr ⟨hg, c2, Decidable.not_not.mp c3, fun p H2 e2 _ _ => hQ _ e2⟩))
theorem open_word {K : PySem.W.Frag} {mg : Str → Option Value} {H : Hp} {a : Addr} {ns : List Int} {g : Int} {Q : VK} (hS : SqL K H a (ns.map V.int)) (hl : ns.length < 80000) (hQ : ∀ H', Same H H' → Q (.str (wOp (openR g ns))) H') :
    sp_open_cells K mg [.ref a, .int g] H (fun _ H1 => Q (.str "let") H1) (fun cls d H' => d = none ∧ ((cls = .ref (exA mg "BadBits") ∧ Q (.str "bits") H') ∨ (cls = .ref (exA mg "Outside") ∧ Q (.str "outside") H') ∨ (cls = .ref (exA mg "BadCells") ∧ Q (.str "cells") H'))) := by
  refine ⟨rfl, a, ns, g, rfl, hS, hl, fun H' e => ?_⟩
  have fin := hQ H' e
  generalize openR g ns = r at fin ⊢
  cases r with
  | bits => exact ⟨rfl, .inl ⟨rfl, fin⟩⟩
  | outside => exact ⟨rfl, .inr (.inl ⟨rfl, fin⟩)⟩
  | cells => exact ⟨rfl, .inr (.inr ⟨rfl, fin⟩)⟩
  | non => exact fin
  | told bs => exact fun p _ _ => fin
def sp_law_both (T : Tbs) (_ : PySem.W.Frag) (_ : Str → Option Value) : Sp := SpN 2 fun vs H Q _ => ∃ (a : Addr) (ns : List Int) (g : Int), vs = [.ref a, .int g] ∧ H a = some (.lst (ns.map V.int)) ∧ ns.length < 80000 ∧ LamX.Tabs T H ∧
  ∀ p H', LamX.ExtN H H' → LamX.Tabs T H' → H' p = some (.lst [.str (wGood g ns), .str (wOp (openR g ns))]) → Q (.ref p) H'
def sp_law_opened (T : Tbs) (_ : PySem.W.Frag) (_ : Str → Option Value) : Sp := SpN 2 fun vs H Q _ => ∃ (F : Hp) (a : Addr) (us : List V) (ls : List (List Int)) (g : Nat), vs = [.ref a, .int g] ∧ Same F H ∧ NoT F ∧ F a = some (.lst us) ∧ RL F us ls ∧ ls.length ≤ 100 ∧ Lds ls ∧ 1 ≤ g ∧ g ≤ 8 ∧ LamX.Tabs T H ∧
  ∀ H', LamX.ExtN H H' → LamX.Tabs T H' → Q (.str (wOp (openR (g : Int) (cellsC g ls).flatten))) H'
def sp_law_counted (_ : PySem.W.Frag) (_ : Str → Option Value) : Sp := SpN 2 fun vs H Q _ => ∃ (F : Hp) (a : Addr) (us : List V) (l0 : List Int) (ls : List (List Int)) (n : Nat), vs = [.ref a, .int n] ∧ Same F H ∧ F a = some (.lst us) ∧ RL F us (l0 :: ls) ∧ ls.length ≤ 100 ∧ n ≤ 1000000 ∧
  ∀ p F' H' acc, Stp S0 F H F' H' → F' p = some (.lst acc) → RL F' acc ((countL n ++ List.replicate (48 - clen n) 0) :: ls) → Q (.ref p) H'
def sp_law_sizes_right (T : Tbs) (_ : PySem.W.Frag) (_ : Str → Option Value) : Sp := SpN 3 fun vs H Q _ => ∃ (F : Hp) (p a : Addr) (bs : List Int) (g : Nat) (us : List V), vs = [.ref p, .ref a, .int g] ∧ Src F H p ∧ NoT F ∧ isBits bs ∧ bs.length ≤ 400 ∧ 1 ≤ g ∧ g ≤ 8 ∧ F a = some (.lst us) ∧ RL F us (cellsC g (loadsC bs)) ∧ LamX.Tabs T H ∧
  ∀ H', Src F H' p → LamX.Tabs T H' → Q (.bl true) H'
def sp_law_counts_right (T : Tbs) (_ : PySem.W.Frag) (_ : Str → Option Value) : Sp := SpN 4 fun vs H Q _ => ∃ (F : Hp) (p b a : Addr) (bs : List Int) (g : Nat) (us : List V), vs = [.ref p, .ref b, .ref a, .int g] ∧ Src F H p ∧ NoT F ∧ isBits bs ∧ bs.length ≤ 400 ∧ F b = some (.lst (bs.map V.int)) ∧ 1 ≤ g ∧ g ≤ 8 ∧ F a = some (.lst us) ∧ RL F us (loadsC bs) ∧ LamX.Tabs T H ∧
  ∀ H', Src F H' p → LamX.Tabs T H' → Q (.bl true) H'
def sp_law_fillings_right := sp_law_counts_right
def sp_lawT (T : Tbs) (K : PySem.W.Frag) (_ : Str → Option Value) : Sp := SpN 1 fun vs H Q _ => ∃ (a : Addr) (ns : List Int), vs = [.ref a] ∧ SqL K H a (ns.map V.int) ∧ ns.length ≤ 63 ∧ LamX.Tabs T H ∧ ∀ H', Q (.bl true) H'
def sp_law := sp_lawT
theorem law_start {T : Tbs} {K : PySem.W.Frag} {mg : Str → Option Value} {H : Hp} {a : Addr} {ns : List Int} {E : XK} (hl : ns.length ≤ 63) (ht : ∀ t ∈ T, H t.1 = some (.tbl #[])) (hS : SqL K H a (ns.map V.int)) : sp_law T K mg [.ref a] H (fun v _ => v = .bl true) E := ⟨rfl, a, ns, rfl, hS, hl, tabs_nil ht, fun _ => rfl⟩
theorem cutV_neg (xs : List V) {k : Nat} (hk : 0 < k) : cutV xs none (some (-(k : Int))) = xs.take (xs.length - k) := by
  unfold cutV
  show (xs.drop 0).take (HT.sIx xs.length xs.length (some (-(k : Int))) - HT.sIx xs.length 0 none) = _
  rw [HT.sIx_none, List.drop_zero]
  congr 1
  show (if (-(k : Int)) < 0 then ((-(k : Int)) + (xs.length : Int)).toNat else min (-(k : Int)).toNat xs.length) - 0 = xs.length - k
  rw [if_pos (by omega)]
  omega
theorem s_iteC {b : Bool} {v w : Str} {σ : L2.St} {H : Hp} {Q : VK} (q : Q (.str (if b = true then v else w)) H) : if b = true then tC (.str v) σ H Q else tC (.str w) σ H Q := by
  cases b <;> exact q
theorem rep_flat (k : Nat) (l : List Int) : (List.replicate k (l.map V.int)).flatten = (List.replicate k l).flatten.map V.int := by
  induction k with
  | zero => rfl
  | succ k ih => rw [List.replicate_succ, List.replicate_succ, List.flatten_cons, List.flatten_cons, ih, List.map_append]
def zeroL : List Int := List.replicate 48 0
theorem zeroL_ok : zeroL.length = 48 ∧ isBits zeroL := ⟨by simp [zeroL], fun x hx => .inl (List.eq_of_mem_replicate hx)⟩
theorem clen_le {n : Nat} (h : n ≤ 1000000) : clen n ≤ 39 := by
  have : blen (n + 1) ≤ 20 := blen_le (by omega)
  unfold clen; omega
theorem rep_flatten (k : Nat) : (List.replicate k zeroL).flatten = List.replicate (k * 48) 0 := by
  induction k with
  | zero => simp
  | succ k ih => rw [List.replicate_succ, List.flatten_cons, ih, zeroL, List.replicate_append_replicate]; congr 1; omega
/-- loads of noughts behind a count -/
theorem counted_word {g n k : Nat} (hg : 0 < g) (hg8 : g ≤ 8) (hn : n ≤ 1000000) :
    wOp (openR (g : Int) (cellsC g ((countL n ++ List.replicate (48 - clen n) 0) :: List.replicate k zeroL)).flatten) = if fitN (k + 1) n = true then ("let" : Str) else ("cells" : Str) := by
  have hc := clen_le hn
  have hcl : (countL n).length = clen n := countL_length n
  have hls : ∀ l ∈ ((countL n ++ List.replicate (48 - clen n) 0) :: List.replicate k zeroL), l.length = 48 ∧ isBits l := fun l hl => by
    rcases List.mem_cons.mp hl with rfl | hl
    · refine ⟨by rw [List.length_append, hcl, List.length_replicate]; omega, fun x hx => ?_⟩
      rcases List.mem_append.mp hx with hx | hx
      · exact countL_bit _ (by omega) x hx
      · exact .inl (List.eq_of_mem_replicate hx)
    · rw [List.eq_of_mem_replicate hl]; exact zeroL_ok
  have cr := cntR_code (c := n) (by omega) [] (List.replicate (48 - clen n) 0)
  rw [List.nil_append, List.length_nil, Nat.zero_add, hcl] at cr
  rw [wOpen_some hg hg8 hls rfl (cntT_of cr hn)]
  by_cases c : (n + clen n + 47) / 48 = k + 1
  · rw [if_pos (show fitN (k + 1) n = true from decide_eq_true c)]
    refine wOp_let (fun l hl => (hls l hl).1) (fun t ht _ => ?_) (by rw [List.length_cons, List.length_replicate]; exact c)
    rw [List.flatten_cons, rep_flatten, List.append_assoc, List.replicate_append_replicate, List.getElem?_append_right (by omega), List.getElem?_replicate]
    split <;> simp
  · rw [if_neg (show ¬ fitN (k + 1) n = true from fun z => c (of_decide_eq_true z))]
    exact wOp_len (by rw [List.length_cons, List.length_replicate]; exact c)
theorem none_word {g k : Nat} {l : List Int} (hg : 0 < g) (hg8 : g ≤ 8) (hl : l.length = 48 ∧ isBits l) (hc : cntT l = none) :
    wOp (openR (g : Int) (cellsC g (l :: List.replicate k zeroL)).flatten) = "cells" :=
  wOpen_none hg hg8 (fun x hx => by
    rcases List.mem_cons.mp hx with rfl | hx
    · exact hl
    · rw [List.eq_of_mem_replicate hx]; exact zeroL_ok) rfl hc
def ld1 : List Int := List.replicate 20 0 ++ List.replicate 28 1
def ld3 : List Int := countL 1000001 ++ List.replicate 9 0
theorem ld1_ok : (ld1.length = 48 ∧ isBits ld1) ∧ cntT ld1 = none := ⟨⟨by decide +kernel, all_good.mp (by decide +kernel)⟩, by decide +kernel⟩
theorem ld2_ok : (zeroL.length = 48 ∧ isBits zeroL) ∧ cntT zeroL = none := ⟨zeroL_ok, by decide +kernel⟩
theorem ld3_ok : (ld3.length = 48 ∧ isBits ld3) ∧ cntT ld3 = none := ⟨⟨by decide +kernel, all_good.mp (by decide +kernel)⟩, by decide +kernel⟩
theorem fits_facts {k : Nat} (h0 : 0 < k) (h9 : k < 10) : ∃ a r b, fitsL k = a :: r ∧ (fitsL k).getLast? = some b ∧ fitN k a = true ∧ fitN k b = true ∧ fitN k (b + 1) = false ∧ (0 < a → fitN k (a - 1) = false) ∧ a < 480 ∧ b < 480 ∧ fitN k 1000000 = false := by
  have h := fits_ok k h9 h0
  unfold fitsOk at h
  have hm : ∀ x ∈ fitsL k, x < 48 * k := fun x hx => by
    unfold fitsL at hx
    have := (List.mem_filter.mp hx).1
    obtain ⟨i, hi, rfl⟩ := List.mem_map.mp this
    have := List.mem_range.mp hi
    omega
  cases e : fitsL k with
  | nil => rw [e] at h; cases h
  | cons a r =>
    rw [e] at h
    simp only [Bool.and_eq_true, Bool.or_eq_true, Bool.not_eq_true', decide_eq_true_eq] at h
    obtain ⟨⟨⟨⟨h1, h2⟩, h3⟩, h4⟩, h5⟩ := h
    refine ⟨a, r, (a :: r).getLastD 0, rfl, ?_, h1, h2, h3, fun ha => ?_, ?_, by omega, ?_⟩
    · rw [List.getLast?_eq_some_getLast (by simp), List.getLastD_cons, List.getLast_eq_getLastD]
    · rcases h4 with h4 | h4
      · omega
      · exact h4
    · have := hm a (by rw [e]; simp)
      omega
    · unfold fitN
      refine decide_eq_false ?_
      have := clen_le (n := 1000000) (by omega)
      omega
theorem cutV_tail (xs : List V) {k : Nat} (hk : 0 < k) : cutV xs (some (-(k : Int))) none = xs.drop (xs.length - k) := by
  unfold cutV
  have e : HT.sIx xs.length 0 (some (-(k : Int))) = xs.length - k := by
    show (if (-(k : Int)) < 0 then ((-(k : Int)) + (xs.length : Int)).toNat else min (-(k : Int)).toNat xs.length) = xs.length - k
    rw [if_pos (by omega)]
    omega
  rw [HT.sIx_none, e, List.take_of_length_le (by rw [List.length_drop]; omega)]
section
variable {P : Program} {w : World} {K : PySem.W.Frag} {mg : Str → Option Value} {base : Heap}
abbrev s_is_bit : Stmt := topS 7
theorem sc_is_bit : FnScope ["thing"] ["thing"] (defScope s_is_bit) := ⟨rfl, rfl, rfl, by decide +kernel, rfl, by decide +kernel, by decide +kernel⟩
def Ok_is_bit (P : Program) (w : World) (K : PySem.W.Frag) (mg : Str → Option Value) (base : Heap) : Prop := ∃ fA fd, Fn P w K mg base (L2.CX P w) 1 "is_bit" s_is_bit fA fd ["thing"] (sp_is_bit K mg)
theorem okx_is_bit (Z : Zs K mg) {fA : Addr} {fd : FuncData} (F : Fun K "is_bit" "is_bit" s_is_bit fA fd) (m : mg "is_bit" = some (.ref fA))  : Fn P w K mg base (L2.CX P w) 1 "is_bit" s_is_bit fA fd ["thing"] (sp_is_bit K mg) := by
  refine ⟨F.okX sc_is_bit (fun vs H Q E h => h.1) (fun cdv A outer s H vs Q E hr h => ?_), m, F.kp, F.binds fun _ _ _ _ _ _ us hl => match us, hl with | [_], _ => rfl, F⟩
  have hu64 := hr.units
  obtain ⟨hlen, h⟩ := h
  refine ⟨_, (pss_one (ps_ret (pe_and (pe_callB (c_isi K rfl) (by rfl) Z.z_isinstance (by decide +kernel) (pa_cons (pv 0) (pa_cons (pe_bltn (v := .ty "int") (by rfl) Z.z_int (by decide +kernel) rfl) pa_nil))) (pe_and (pe_not (pe_callB (c_isi K rfl) (by rfl) Z.z_isinstance (by decide +kernel) (pa_cons (pv 0) (pa_cons (pe_bltn (v := .ty "bool") (by rfl) Z.z_bool (by decide +kernel) rfl) pa_nil)))) (pe_one (pe_chain op_le op_le pe_int (pv 0) pe_int)))))), ?_⟩
  obtain ⟨b, rfl, q⟩ := h
  walk_at "r"
  refine s_isi (b := true) (.base (.int b)) (by decide +kernel) ?_
  walk_at "r"
  refine s_isi (b := false) (.base (.int b)) (by decide +kernel) ?_
  walk_at "r"
  refine ifd (fun h => ?_) (fun h => ?_)
  · walk_at "r"
    have e : goodI b = decide (b ≤ 1) := by unfold goodI; simp [h]
    rw [e] at q
    exact q
  · have e : goodI b = false := by unfold goodI; simp [h]
    rw [e] at q
    exact q
abbrev s_check_bits : Stmt := topS 8
theorem sc_check_bits : FnScope ["bits", "bit"] ["bits"] (defScope s_check_bits) := ⟨rfl, rfl, rfl, by decide +kernel, rfl, by decide +kernel, by decide +kernel⟩
def Ok_check_bits (P : Program) (w : World) (K : PySem.W.Frag) (mg : Str → Option Value) (base : Heap) : Prop := ∃ fA fd, Fn P w K mg base (L2.CX P w) 2 "check_bits" s_check_bits fA fd ["bits"] (sp_check_bits K mg)
theorem okx_check_bits (Z : Zs K mg) {fA : Addr} {fd : FuncData} (F : Fun K "check_bits" "check_bits" s_check_bits fA fd) (m : mg "check_bits" = some (.ref fA)) (C_is_bit : Ok_is_bit P w K mg base) : Fn P w K mg base (L2.CX P w) 2 "check_bits" s_check_bits fA fd ["bits"] (sp_check_bits K mg) := by
  obtain ⟨_, _, C_is_bit⟩ := C_is_bit
  refine ⟨F.okX sc_check_bits (fun vs H Q E h => h.1) (fun cdv A outer s H vs Q E hr h => ?_), m, F.kp, F.binds fun _ _ _ _ _ _ us hl => match us, hl with | [_], _ => rfl, F⟩
  have hu64 := hr.units
  obtain ⟨hlen, h⟩ := h
  refine ⟨_, (pss_one (ps_for (passes_of rfl) rfl (pi_list (pv 0)) (pg_name (i := 1) sc_check_bits.nd rfl (Or.inl rfl))
      (pss_one (ps_if (pt_not (pt_val (pe_call C_is_bit.G (hr.mono (by decide)) rfl C_is_bit.m C_is_bit.kp C_is_bit.b .nil passL (pa_cons (pv 1) pa_nil))))
      (pss_one (ps_raise rfl (takes_of rfl rfl rfl rfl) (pmk_own0 PySem.F.excBase_ValueError Z.x_BadBits.x Z.x_BadBits.g Z.x_BadBits.k (raises_own Z.x_BadBits.b Z.x_BadBits.t) rfl)))
      pss_nil)))), ?_⟩
  obtain ⟨a, ns, rfl, hS, hh⟩ := h
  walk_at "r"
  refine ⟨_, rfl, ⟨_, hS⟩, ?_⟩
  refine forL (xs := ns.map V.int) (fun i σ H' => ∃ v, σ = [some (.ref a), v] ∧ H = H' ∧ ∀ x ∈ ns.take i, goodI x = true) ⟨_, rfl, rfl, by simp⟩ (fun i σ H' _ ⟨_, _, e, _⟩ => e ▸ hS) ?_ ?_
  · rintro i x σ H' hx ⟨v, rfl, rfl, hg⟩
    rw [List.getElem?_map] at hx
    cases z : ns[i]? with
    | none => rw [z] at hx; cases hx
    | some b =>
      rw [z] at hx
      cases hx
      walk_at "r"
      refine ⟨rfl, b, rfl, ?_⟩
      cases e : goodI b with
      | true =>
        walk_at "r"
        refine ⟨_, rfl, rfl, fun y hy => ?_⟩
        obtain ⟨hi, hx'⟩ := List.getElem?_eq_some_iff.mp z
        rw [List.take_succ_eq_append_getElem hi, List.mem_append] at hy
        rcases hy with hy | hy
        · exact hg y hy
        · rw [hx', List.mem_singleton] at hy; rw [hy, e]
      | false =>
        walk_at "r"
        rcases hh with ⟨w, _⟩ | ⟨_, q⟩
        · rw [List.all_eq_true] at w
          rw [w b (List.mem_of_getElem? z)] at e
          cases e
        · exact q
  · rintro σ H' ⟨v, rfl, rfl, hg⟩
    rw [List.length_map, List.take_length, ← List.all_eq_true] at hg
    rcases hh with ⟨_, q⟩ | ⟨z, _⟩
    · walk_at "r"
      exact q
    · rw [hg] at z; cases z
abbrev s_fixed : Stmt := topS 10
theorem sc_fixed : FnScope ["n", "w", "digit"] ["n", "w"] (defScope s_fixed) := ⟨rfl, rfl, rfl, by decide +kernel, rfl, by decide +kernel, by decide +kernel⟩
def Ok_fixed (P : Program) (w : World) (K : PySem.W.Frag) (mg : Str → Option Value) (base : Heap) : Prop := ∃ fA fd, Fn P w K mg base (L2.CX P w) 1 "fixed" s_fixed fA fd ["n", "w"] (sp_fixed K mg)
theorem okx_fixed (Z : Zs K mg) {fA : Addr} {fd : FuncData} (F : Fun K "fixed" "fixed" s_fixed fA fd) (m : mg "fixed" = some (.ref fA))  : Fn P w K mg base (L2.CX P w) 1 "fixed" s_fixed fA fd ["n", "w"] (sp_fixed K mg) := by
  refine ⟨F.okX sc_fixed (fun vs H Q E h => h.1) (fun cdv A outer s H vs Q E hr h => ?_), m, F.kp, F.binds fun _ _ _ _ _ _ us hl => match us, hl with | [_, _], _ => rfl, F⟩
  have hu64 := hr.units
  obtain ⟨hlen, h⟩ := h
  refine ⟨_, (pss_cons (ps_if (PW.pt (pw_or (pt_cmpR op_lt (pv 0) pe_int (nomark _)) (pw_or (pt_cmpR op_lt (pv 1) pe_int (nomark _)) (pw_or1 (pt_cmpR op_gt (pe_bits (pv 0)) (pv 1) (nomark _))))))
      (pss_one (ps_raise rfl (takes_of rfl rfl rfl rfl) (pmk_own0 PySem.F.excBase_ValueError Z.x_Outside.x Z.x_Outside.g Z.x_Outside.k (raises_own Z.x_Outside.b Z.x_Outside.t) rfl)))
      pss_nil)
    (pss_cons (ps_if (pt_cmpR op_eq (pv 1) pe_int (nomark _))
      (pss_one (ps_ret (pe_lst pa_nil)))
      pss_nil)
    (pss_one (ps_ret (pe_lc (own := [("digit", 2)]) (g := gName 2) (tt := tYes) (by rfl) sc_fixed.nd (pi_str (pe_bm PySem.F.plainAttrs_str PySem.F.slot_str_zfill PySem.F.type_str_zfill mt_zfill (pe_joined1 (pe_fmtB (pv 0))) (pa_cons (pv 1) pa_nil))) (blkOk_by (own := [("digit", 2)]) (N := ["n", "w", "digit"]) (sc := defScope s_fixed) (by decide +kernel)) (fun _ _ _ _ _ => (pg_name (i := 2) sc_fixed.nd rfl (Or.inl rfl))) (fun _ _ _ _ _ => pts_nil) (fun _ _ _ _ _ => (pe_callTy call_int_str (by rfl) Z.z_int (by decide +kernel) (pa_cons (pv 2) pa_nil)))))))), ?_⟩
  obtain ⟨n, w, rfl, hn, hw, hw2, hlt, k⟩ := h
  walk_at "r"
  refine ifd (fun h => absurd h (by omega)) (fun _ => ?_)
  walk_at "r"
  refine ifd (fun h => absurd h (by omega)) (fun _ => ?_)
  walk_at "r"
  have hb := (intBits_le (w := w.toNat) hn).mpr hlt
  refine ifd (fun h => absurd h (by omega)) (fun _ => ?_)
  walk_at "r"
  refine ifd (fun h => ?_) (fun h => ?_)
  · walk_at "r"
    subst h
    exact ⟨sz (by simp), fun p hp => k p _ (Stp.new (S := S0) (Same.refl H) hp).same hp upd_same⟩
  · walk_at "r"
    obtain ⟨w', rfl⟩ : ∃ w' : Nat, w = ((w' + 1 : Nat) : Int) := ⟨w.toNat - 1, by omega⟩
    rw [Int.toNat_natCast] at hlt k
    have en : n.natAbs = n.toNat := by omega
    refine ⟨hn, Nat.le_trans (bits_le (n := n.natAbs) (by rw [en]; exact hlt)) (by omega), ?_⟩
    refine ⟨rfl, ?_⟩
    walk_at "r"
    refine ⟨_, _, rfl, rfl, pad_ok (by omega), ?_⟩
    refine ⟨_, rfl, ?_⟩
    have hz := zfill_bin hlt
    rw [show n.toNat = n.natAbs by omega] at hz
    have hs : (Txt.zfill (binText n.natAbs) ((w' + 1 : Nat) : Int)).cps.size = w' + 1 := by
      rw [← Array.length_toList, hz, List.length_map, fixL_len]
    refine lcW walk_str S0 (Same.refl H) (fun _ z => z.elim) (fun _ _ _ => trivial) (fun i acc F1 H1 => acc = (bitsV (w' + 1) n.toNat).take i) (fun _ _ _ _ _ _ _ _ _ r => r) rfl ?_ ?_
    · rintro i x acc d F1 H1 H2 hi ⟨rfl, c, hc, rfl⟩ hd nS st f0 e hl r
      walk_at "r"
      have hc2 : ((fixL (w' + 1) n.natAbs).map code)[i]? = some c := by rw [← hz]; simpa using hc
      rw [List.getElem?_map] at hc2
      cases hb2 : (fixL (w' + 1) n.natAbs)[i]? with
      | none => rw [hb2] at hc2; cases hc2
      | some b =>
        rw [hb2] at hc2
        have ec : code b = c := Option.some.inj hc2
        subst ec
        refine ⟨_, _, rfl, text_bit (fixL_bit _ _ b (List.mem_of_getElem? hb2)), (by show 1 ≤ 640; decide), ?_⟩
        refine lc_end hd nS st f0 e hl (by rw [hs] at hi; omega) (.rfl' st.fh) ?_
        have hi2 : i < (bitsV (w' + 1) n.toNat).length := by simp [bitsV, fixL_len]; rw [hs] at hi; exact hi
        rw [r, List.take_succ_eq_append_getElem hi2]
        congr 2
        have q2 : (bitsV (w' + 1) n.toNat)[i]? = some (V.int b) := by rw [bitsV, List.getElem?_map, ← en, hb2]; rfl
        rw [List.getElem?_eq_getElem hi2] at q2
        exact (Option.some.inj q2).symm
    · intro d acc F0 F1 H1 st hd f0 ef st1 hl r
      refine k d H1 st.same hd ?_
      rw [ef] at st1
      rw [st1.fh _ _ upd_same, r, hs, List.take_of_length_le (by simp [bitsV, fixL_len])]
abbrev s_number_of : Stmt := topS 9
theorem sc_number_of : FnScope ["bits", "found", "bit"] ["bits"] (defScope s_number_of) := ⟨rfl, rfl, rfl, by decide +kernel, rfl, by decide +kernel, by decide +kernel⟩
def Ok_number_of (P : Program) (w : World) (K : PySem.W.Frag) (mg : Str → Option Value) (base : Heap) : Prop := ∃ fA fd, Fn P w K mg base (L2.CX P w) 1 "number_of" s_number_of fA fd ["bits"] (sp_number_of K mg)
theorem okx_number_of (Z : Zs K mg) {fA : Addr} {fd : FuncData} (F : Fun K "number_of" "number_of" s_number_of fA fd) (m : mg "number_of" = some (.ref fA))  : Fn P w K mg base (L2.CX P w) 1 "number_of" s_number_of fA fd ["bits"] (sp_number_of K mg) := by
  refine ⟨F.okX sc_number_of (fun vs H Q E h => h.1) (fun cdv A outer s H vs Q E hr h => ?_), m, F.kp, F.binds fun _ _ _ _ _ _ us hl => match us, hl with | [_], _ => rfl, F⟩
  have hu64 := hr.units
  obtain ⟨hlen, h⟩ := h
  refine ⟨_, (pss_cons (ps_set (i := 1) sc_number_of.nd rfl (Or.inl rfl) pe_int)
    (pss_cons (ps_for (passes_of rfl) rfl (pi_list (pv 0)) (pg_name (i := 2) sc_number_of.nd rfl (Or.inl rfl))
      (pss_one (ps_set (i := 1) sc_number_of.nd rfl (Or.inl rfl) (pe_op op_add (pe_op op_mul pe_int (pv 1)) (pv 2)))))
    (pss_one (ps_ret (pv 1))))), ?_⟩
  obtain ⟨a, bs, rfl, hS, q⟩ := h
  walk_at "r"
  refine ⟨_, rfl, ⟨_, hS⟩, ?_⟩
  refine forL (xs := bs.map V.int) (fun i σ H' => ∃ v, σ = [some (.ref a), some (.int (numL (bs.take i))), v] ∧ H = H') ⟨_, rfl, rfl⟩ (fun i σ H' _ ⟨_, _, e⟩ => e ▸ hS) ?_ ?_
  · rintro i x σ H' hx ⟨v, rfl, rfl⟩
    rw [List.getElem?_map] at hx
    cases z : bs[i]? with
    | none => rw [z] at hx; cases hx
    | some b =>
      rw [z] at hx
      cases hx
      have hi : i < bs.length := (List.getElem?_eq_some_iff.mp z).1
      have et : bs.take (i + 1) = bs.take i ++ [b] := by
        rw [List.take_succ_eq_append_getElem hi]
        rw [List.getElem?_eq_getElem hi] at z
        rw [Option.some.inj z]
      have hv : 2 * numL (bs.take i) + b = numL (bs.take (i + 1)) := by rw [et, numL_snoc]
      walk_at "r"
      rw [hv]
      exact ⟨_, rfl, rfl⟩
  · rintro σ H' ⟨v, rfl, rfl⟩
    rw [List.length_map, List.take_length]
    walk_at "r"
    exact q
abbrev s_count_at : Stmt := topS 11
theorem sc_count_at : FnScope ["bits", "at", "place", "zeros", "behind"] ["bits", "at"] (defScope s_count_at) := ⟨rfl, rfl, rfl, by decide +kernel, rfl, by decide +kernel, by decide +kernel⟩
def Ok_count_at (P : Program) (w : World) (K : PySem.W.Frag) (mg : Str → Option Value) (base : Heap) : Prop := ∃ fA fd, Fn P w K mg base (L2.CX P w) 2 "count_at" s_count_at fA fd ["bits", "at"] (sp_count_at K mg)
theorem okx_count_at (Z : Zs K mg) {fA : Addr} {fd : FuncData} (F : Fun K "count_at" "count_at" s_count_at fA fd) (m : mg "count_at" = some (.ref fA)) (C_number_of : Ok_number_of P w K mg base) : Fn P w K mg base (L2.CX P w) 2 "count_at" s_count_at fA fd ["bits", "at"] (sp_count_at K mg) := by
  obtain ⟨_, _, C_number_of⟩ := C_number_of
  refine ⟨F.okX sc_count_at (fun vs H Q E h => h.1) (fun cdv A outer s H vs Q E hr h => ?_), m, F.kp, F.binds fun _ _ _ _ _ _ us hl => match us, hl with | [_, _], _ => rfl, F⟩
  have hu64 := hr.units
  obtain ⟨hlen, h⟩ := h
  refine ⟨_, (pss_cons (ps_set (i := 2) sc_count_at.nd rfl (Or.inl rfl) (pv 1))
    (pss_cons (ps_while (passes_of rfl) (PW.pt (pw_and (pt_cmpR op_lt (pv 2) (pe_callB (c_len K rfl) (by rfl) Z.z_len (by decide +kernel) (pa_cons (pv 0) pa_nil)) (nomark _)) (pw_and (pt_cmpR op_le (pe_op op_sub (pv 2) (pv 1)) (pe_glob (v := .int (40)) rfl Z.c_MOST_ZEROS ⟨_, rfl⟩) (nomark _)) (pw_and1 (pt_cmpR op_eq (pe_ix (i_list K rfl) (pv 0) (pv 2) (fun _ _ => rfl)) pe_int (nomark _))))))
      (pss_one (ps_set (i := 2) sc_count_at.nd rfl (Or.inl rfl) (pe_op op_add (pv 2) pe_int))))
    (pss_cons (ps_set (i := 3) sc_count_at.nd rfl (Or.inl rfl) (pe_op op_sub (pv 2) (pv 1)))
    (pss_cons (ps_if (pt_cmpR op_gt (pv 3) (pe_glob (v := .int (40)) rfl Z.c_MOST_ZEROS ⟨_, rfl⟩) (nomark _))
      (pss_one (ps_ret (pe_tup (pa_cons pe_str pa_nil))))
      pss_nil)
    (pss_cons (ps_set (i := 4) sc_count_at.nd rfl (Or.inl rfl) (pe_op op_add (pe_op op_add (pv 2) (pv 3)) pe_int))
    (pss_cons (ps_if (pt_cmpR op_gt (pv 4) (pe_callB (c_len K rfl) (by rfl) Z.z_len (by decide +kernel) (pa_cons (pv 0) pa_nil)) (nomark _))
      (pss_one (ps_ret (pe_tup (pa_cons pe_str pa_nil))))
      pss_nil)
    (pss_one (ps_ret (pe_tup (pa_cons pe_str (pa_cons (pe_op op_sub (pe_call C_number_of.G (hr.mono (by decide)) rfl C_number_of.m C_number_of.kp C_number_of.b .nil passL (pa_cons (pe_slice (l_list K rfl) (pv 0) (po_some (pv 2)) (po_some (pv 4))) pa_nil)) pe_int) (pa_cons (pv 4) pa_nil)))))))))))), ?_⟩
  obtain ⟨a, bs, n, rfl, hS, hn, hlen, q⟩ := h
  have hz := zrun_le hn
  walk_at "r"
  refine whileM (mon_and (mon_test (mon_op mon_I0 mon_var (mon_len (mon_cons mon_var mon_nil)))) (mon_and (mon_test (mon_op mon_I0 (mon_op mon_I0 mon_var mon_var) mon_c)) (mon_test (mon_op mon_eq (mon_op mon_ixL mon_var mon_var) mon_c))))
    (fun σ H' => ∃ j : Nat, σ = [some (.ref a), some (.int n), some (.int ((n + j : Nat) : Int)), none, none] ∧ H = H' ∧ j ≤ min 41 (zrun bs n)) (fun σ _ => match σ with
      | [_, _, some (.int p), _, _] => (n + 41 - p.toNat)
      | _ => 0) ⟨0, rfl, rfl, Nat.zero_le _⟩ ?_
  rintro σ H' ⟨j, rfl, rfl, hj⟩
  walk_at "r"
  refine ifd (fun h1 => ?_) (fun h1 => ?_)
  · walk_at "r"
    refine ifd (fun h2 => ?_) (fun h2 => ?_)
    · walk_at "r"
      have hl : n + j < bs.length := by simp at h1; omega
      refine s_ixL hS (at_nat' (get_int hl)) ?_
      walk_at "r"
      refine ifd (fun h3 => ?_) (fun h3 => ?_)
      · walk_at "r"
        have hlt : j < zrun bs n := by
          refine Decidable.byContradiction fun z => ?_
          have e : j = zrun bs n := by omega
          refine zrun_end (bs := bs) (a := n) ?_
          rw [← e, List.getElem?_eq_getElem hl, h3]
        refine ⟨⟨j + 1, ?_, rfl, by omega⟩, ?_⟩
        · rfl
        · show n + 41 - (((n + j : Nat) : Int) + 1).toNat < n + 41 - (((n + j : Nat) : Int)).toNat
          omega
      · have e : j = min 41 (zrun bs n) := by
          by_cases z : j < zrun bs n
          · have q2 := zrun_at z
            rw [List.getElem?_eq_getElem hl] at q2
            exact absurd (Option.some.inj q2) h3
          · omega
        -- behind the loop
        walk_at "r"
        have ez : ((n + j : Nat) : Int) - (n : Int) = (j : Int) := by omega
        rw [ez]
        refine ifd (fun h4 => ?_) (fun h4 => ?_)
        · walk_at "r"
          refine ⟨sz (by simp), fun p hp => q p _ (Stp.new (S := S0) (Same.refl _) hp).same hp ?_⟩
          rw [upd_same, cntR, if_pos (by omega)]
        · walk_at "r"
          refine ifd (fun h5 => ?_) (fun h5 => ?_)
          · walk_at "r"
            refine ⟨sz (by simp), fun p hp => q p _ (Stp.new (S := S0) (Same.refl _) hp).same hp ?_⟩
            rw [upd_same, cntR, if_neg (by omega), if_pos (by simp at h5; omega)]
          · walk_at "r"
            have eb : ((n + j : Nat) : Int) + (j : Int) + 1 = ((n + j + j + 1 : Nat) : Int) := by omega
            rw [eb]
            refine s_slL hS fun p1 hp1 => ?_
            rw [cutV_nat, show n + j + j + 1 - (n + j) = j + 1 by omega]
            have s1 := Stp.new (S := S0) (o := .lst (((bs.map V.int).drop (n + j)).take (j + 1))) (Same.refl _) hp1
            refine ⟨rfl, p1, (bs.drop (n + j)).take (j + 1), rfl, SqL.of (by rw [upd_same, List.map_take, List.map_drop]), ?_⟩
            walk_at "r"
            refine ⟨sz (by simp), fun p hp => q p _ (s1.same.trans (Stp.new (S := S0) (Same.refl _) hp).same) (s1.same.free hp) ?_⟩
            rw [upd_same, cntR, if_neg (by omega), if_neg (by simp at h5; omega), ← e]
    · have e : j = min 41 (zrun bs n) := by omega
      -- behind the loop
      walk_at "r"
      have ez : ((n + j : Nat) : Int) - (n : Int) = (j : Int) := by omega
      rw [ez]
      refine ifd (fun h4 => ?_) (fun h4 => ?_)
      · walk_at "r"
        refine ⟨sz (by simp), fun p hp => q p _ (Stp.new (S := S0) (Same.refl _) hp).same hp ?_⟩
        rw [upd_same, cntR, if_pos (by omega)]
      · walk_at "r"
        refine ifd (fun h5 => ?_) (fun h5 => ?_)
        · walk_at "r"
          refine ⟨sz (by simp), fun p hp => q p _ (Stp.new (S := S0) (Same.refl _) hp).same hp ?_⟩
          rw [upd_same, cntR, if_neg (by omega), if_pos (by simp at h5; omega)]
        · walk_at "r"
          have eb : ((n + j : Nat) : Int) + (j : Int) + 1 = ((n + j + j + 1 : Nat) : Int) := by omega
          rw [eb]
          refine s_slL hS fun p1 hp1 => ?_
          rw [cutV_nat, show n + j + j + 1 - (n + j) = j + 1 by omega]
          have s1 := Stp.new (S := S0) (o := .lst (((bs.map V.int).drop (n + j)).take (j + 1))) (Same.refl _) hp1
          refine ⟨rfl, p1, (bs.drop (n + j)).take (j + 1), rfl, SqL.of (by rw [upd_same, List.map_take, List.map_drop]), ?_⟩
          walk_at "r"
          refine ⟨sz (by simp), fun p hp => q p _ (s1.same.trans (Stp.new (S := S0) (Same.refl _) hp).same) (s1.same.free hp) ?_⟩
          rw [upd_same, cntR, if_neg (by omega), if_neg (by simp at h5; omega), ← e]
  · have e : j = min 41 (zrun bs n) := by simp at h1; omega
    -- behind the loop
    walk_at "r"
    have ez : ((n + j : Nat) : Int) - (n : Int) = (j : Int) := by omega
    rw [ez]
    refine ifd (fun h4 => ?_) (fun h4 => ?_)
    · walk_at "r"
      refine ⟨sz (by simp), fun p hp => q p _ (Stp.new (S := S0) (Same.refl _) hp).same hp ?_⟩
      rw [upd_same, cntR, if_pos (by omega)]
    · walk_at "r"
      refine ifd (fun h5 => ?_) (fun h5 => ?_)
      · walk_at "r"
        refine ⟨sz (by simp), fun p hp => q p _ (Stp.new (S := S0) (Same.refl _) hp).same hp ?_⟩
        rw [upd_same, cntR, if_neg (by omega), if_pos (by simp at h5; omega)]
      · walk_at "r"
        have eb : ((n + j : Nat) : Int) + (j : Int) + 1 = ((n + j + j + 1 : Nat) : Int) := by omega
        rw [eb]
        refine s_slL hS fun p1 hp1 => ?_
        rw [cutV_nat, show n + j + j + 1 - (n + j) = j + 1 by omega]
        have s1 := Stp.new (S := S0) (o := .lst (((bs.map V.int).drop (n + j)).take (j + 1))) (Same.refl _) hp1
        refine ⟨rfl, p1, (bs.drop (n + j)).take (j + 1), rfl, SqL.of (by rw [upd_same, List.map_take, List.map_drop]), ?_⟩
        walk_at "r"
        refine ⟨sz (by simp), fun p hp => q p _ (s1.same.trans (Stp.new (S := S0) (Same.refl _) hp).same) (s1.same.free hp) ?_⟩
        rw [upd_same, cntR, if_neg (by omega), if_neg (by simp at h5; omega), ← e]
abbrev s_check_of : Stmt := topS 17
theorem sc_check_of : FnScope ["bits", "held", "bit", "top"] ["bits"] (defScope s_check_of) := ⟨rfl, rfl, rfl, by decide +kernel, rfl, by decide +kernel, by decide +kernel⟩
def Ok_check_of (P : Program) (w : World) (K : PySem.W.Frag) (mg : Str → Option Value) (base : Heap) : Prop := ∃ fA fd, Fn P w K mg base (L2.CX P w) 2 "check_of" s_check_of fA fd ["bits"] (sp_check_of K mg)
theorem okx_check_of (Z : Zs K mg) {fA : Addr} {fd : FuncData} (F : Fun K "check_of" "check_of" s_check_of fA fd) (m : mg "check_of" = some (.ref fA)) (C_fixed : Ok_fixed P w K mg base) : Fn P w K mg base (L2.CX P w) 2 "check_of" s_check_of fA fd ["bits"] (sp_check_of K mg) := by
  obtain ⟨_, _, C_fixed⟩ := C_fixed
  refine ⟨F.okX sc_check_of (fun vs H Q E h => h.1) (fun cdv A outer s H vs Q E hr h => ?_), m, F.kp, F.binds fun _ _ _ _ _ _ us hl => match us, hl with | [_], _ => rfl, F⟩
  have hu64 := hr.units
  obtain ⟨hlen, h⟩ := h
  refine ⟨_, (pss_cons (ps_set (i := 1) sc_check_of.nd rfl (Or.inl rfl) pe_int)
    (pss_cons (ps_for (passes_of rfl) rfl (pi_list (pv 0)) (pg_name (i := 2) sc_check_of.nd rfl (Or.inl rfl))
      (pss_cons (ps_set (i := 3) sc_check_of.nd rfl (Or.inl rfl) (pe_op op_xor (pe_op op_fdiv (pv 1) (pe_glob (v := .int (128)) rfl Z.c_HIGHEST ⟨_, rfl⟩)) (pv 2)))
    (pss_cons (ps_set (i := 1) sc_check_of.nd rfl (Or.inl rfl) (pe_op op_mod (pe_op op_mul pe_int (pv 1)) (pe_glob (v := .int (256)) rfl Z.c_STATES ⟨_, rfl⟩)))
    (pss_one (ps_if (pt_cmpR op_eq (pv 3) pe_int (nomark _))
      (pss_one (ps_set (i := 1) sc_check_of.nd rfl (Or.inl rfl) (pe_op op_xor (pv 1) (pe_glob (v := .int (7)) rfl Z.c_TURN ⟨_, rfl⟩))))
      pss_nil)))))
    (pss_one (ps_ret (pe_call C_fixed.G (hr.mono (by decide)) rfl C_fixed.m C_fixed.kp C_fixed.b .nil passL (pa_cons (pv 1) (pa_cons (pe_glob (v := .int (8)) rfl Z.c_CHECK_SIZE ⟨_, rfl⟩) pa_nil))))))), ?_⟩
  obtain ⟨a, bs, rfl, hS, hb, q⟩ := h
  walk_at "r"
  refine ⟨_, rfl, ⟨_, hS⟩, ?_⟩
  refine forL (xs := bs.map V.int) (fun i σ H' => ∃ v w, σ = [some (.ref a), some (.int (chk (bs.take i) : Nat)), v, w] ∧ H = H') ⟨_, _, rfl, rfl⟩ (fun i σ H' _ ⟨_, _, _, e⟩ => e ▸ hS) ?_ ?_
  · rintro i x σ H' hx ⟨v, w, rfl, rfl⟩
    rw [List.getElem?_map] at hx
    cases z : bs[i]? with
    | none => rw [z] at hx; cases hx
    | some b =>
      rw [z] at hx
      cases hx
      have hbb := hb b (List.mem_of_getElem? z)
      have hi : i < bs.length := (List.getElem?_eq_some_iff.mp z).1
      have et : bs.take (i + 1) = bs.take i ++ [b] := by
        rw [List.take_succ_eq_append_getElem hi]
        rw [List.getElem?_eq_getElem hi] at z
        rw [Option.some.inj z]
      have lt := chk_lt (bs.take i)
      have b0 : 0 ≤ b := by rcases hbb with rfl | rfl <;> decide
      have es : chk (bs.take (i + 1)) = stp (chk (bs.take i)) b.toNat := by rw [et]; exact cf_snoc _ _ _
      have e1 : Builtin.bitXor ((chk (bs.take i) : Int) / 128) b = (((chk (bs.take i) / 128) ^^^ b.toNat : Nat) : Int) := by
        rw [Bits.bitXor_pp (by omega) b0]; congr 2
      have e2 : (2 * (chk (bs.take i) : Int)) % 256 = ((2 * chk (bs.take i) % 256 : Nat) : Int) := by simp
      walk_at "r"
      rw [e1]
      refine ifd (fun h => ?_) (fun h => ?_)
      · have h' : (chk (bs.take i) / 128) ^^^ b.toNat = 1 := by omega
        have hv : Builtin.bitXor (2 * (chk (bs.take i) : Int) % 256) 7 = ((chk (bs.take (i + 1)) : Nat) : Int) := by
          rw [e2, Bits.bitXor_pp (by omega) (by decide), es, stp, if_pos h']; rfl
        walk_at "r"
        rw [hv]
        exact ⟨_, _, rfl, rfl⟩
      · have h' : ¬ (chk (bs.take i) / 128) ^^^ b.toNat = 1 := by omega
        have hv : 2 * (chk (bs.take i) : Int) % 256 = ((chk (bs.take (i + 1)) : Nat) : Int) := by
          rw [e2, es, stp, if_neg h', Nat.xor_zero]
        walk_at "r"
        rw [hv]
        exact ⟨_, _, rfl, rfl⟩
  · rintro σ H' ⟨v, w, rfl, rfl⟩
    rw [List.length_map, List.take_length]
    walk_at "r"
    refine ⟨rfl, _, _, rfl, by omega, by decide, by decide, by rw [Int.toNat_natCast]; exact chk_lt bs, fun p H1 s1 hp h1 => q p H1 s1 hp ?_⟩
    rw [h1, Int.toNat_natCast]; rfl
abbrev s_want_group : Stmt := topS 23
theorem sc_want_group : FnScope ["group"] ["group"] (defScope s_want_group) := ⟨rfl, rfl, rfl, by decide +kernel, rfl, by decide +kernel, by decide +kernel⟩
def Ok_want_group (P : Program) (w : World) (K : PySem.W.Frag) (mg : Str → Option Value) (base : Heap) : Prop := ∃ fA fd, Fn P w K mg base (L2.CX P w) 1 "want_group" s_want_group fA fd ["group"] (sp_want_group K mg)
theorem okx_want_group (Z : Zs K mg) {fA : Addr} {fd : FuncData} (F : Fun K "want_group" "want_group" s_want_group fA fd) (m : mg "want_group" = some (.ref fA))  : Fn P w K mg base (L2.CX P w) 1 "want_group" s_want_group fA fd ["group"] (sp_want_group K mg) := by
  refine ⟨F.okX sc_want_group (fun vs H Q E h => h.1) (fun cdv A outer s H vs Q E hr h => ?_), m, F.kp, F.binds fun _ _ _ _ _ _ us hl => match us, hl with | [_], _ => rfl, F⟩
  have hu64 := hr.units
  obtain ⟨hlen, h⟩ := h
  refine ⟨_, (pss_one (ps_if (pt_not (pt_chain op_le op_le pe_int (pv 0) (pe_glob (v := .int (8)) rfl Z.c_MOST_GROUP ⟨_, rfl⟩)))
      (pss_one (ps_raise rfl (takes_of rfl rfl rfl rfl) (pmk_own0 PySem.F.excBase_ValueError Z.x_Outside.x Z.x_Outside.g Z.x_Outside.k (raises_own Z.x_Outside.b Z.x_Outside.t) rfl)))
      pss_nil)), ?_⟩
  obtain ⟨g, rfl, hh⟩ := h
  walk_at "r"
  refine ifd (fun h0 => ?_) (fun h0 => ?_)
  · walk_at "r"
    refine ifn (fun h1 => ?_) (fun h1 => ?_)
    · rcases hh with ⟨_, _, q⟩ | ⟨z, _⟩
      · walk_at "r"
        exact q
      · exact absurd ⟨h0, h1⟩ z
    · walk_at "r"
      rcases hh with ⟨_, z, _⟩ | ⟨_, q⟩
      · exact absurd z h1
      · exact q
  · walk_at "r"
    rcases hh with ⟨z, _, _⟩ | ⟨_, q⟩
    · exact absurd z h0
    · exact q
abbrev s_cut_up : Stmt := topS 24
theorem sc_cut_up : FnScope ["things", "size", "at"] ["things", "size"] (defScope s_cut_up) := ⟨rfl, rfl, rfl, by decide +kernel, rfl, by decide +kernel, by decide +kernel⟩
def Ok_cut_up (P : Program) (w : World) (K : PySem.W.Frag) (mg : Str → Option Value) (base : Heap) : Prop := ∃ fA fd, Fn P w K mg base (L2.CX P w) 1 "cut_up" s_cut_up fA fd ["things", "size"] (sp_cut_up K mg)
theorem okx_cut_up (Z : Zs K mg) {fA : Addr} {fd : FuncData} (F : Fun K "cut_up" "cut_up" s_cut_up fA fd) (m : mg "cut_up" = some (.ref fA))  : Fn P w K mg base (L2.CX P w) 1 "cut_up" s_cut_up fA fd ["things", "size"] (sp_cut_up K mg) := by
  refine ⟨F.okX sc_cut_up (fun vs H Q E h => h.1) (fun cdv A outer s H vs Q E hr h => ?_), m, F.kp, F.binds fun _ _ _ _ _ _ us hl => match us, hl with | [_, _], _ => rfl, F⟩
  have hu64 := hr.units
  obtain ⟨hlen, h⟩ := h
  refine ⟨_, (pss_one (ps_ret (pe_lc (own := [("at", 2)]) (g := gName 2) (tt := tYes) (by rfl) sc_cut_up.nd (pi_range3 rfl Z.z_range (pa_cons pe_int (pa_cons (pe_callB (c_len K rfl) (by rfl) Z.z_len (by decide +kernel) (pa_cons (pv 0) pa_nil)) (pa_cons (pv 1) pa_nil)))) (blkOk_by (own := [("at", 2)]) (N := ["things", "size", "at"]) (sc := defScope s_cut_up) (by decide +kernel)) (fun _ _ _ _ _ => (pg_name (i := 2) sc_cut_up.nd rfl (Or.inl rfl))) (fun _ _ _ _ _ => pts_nil) (fun _ _ _ _ _ => (pe_slice (l_list K rfl) (pv 0) (po_some (pv 2)) (po_some (pe_op op_add (pv 2) (pv 1)))))))), ?_⟩
  obtain ⟨F, a, xs, k, rfl, hF, hS, hk0, hk, hl0, q⟩ := h
  walk_at "r"
  refine s_len (hF.seq hS) ?_
  walk_at "r"
  have en : (((xs.length : Nat) : Int) + (k : Int) - 1) / (k : Int) = (((chunk k xs).length : Nat) : Int) := by
    rw [chunk_len hk0, Int.natCast_ediv]
    congr 1
    omega
  refine ⟨_, _, _, (chunk k xs).length, rfl, ?_, ?_⟩
  · have := rgc_up (L := ((xs.length : Nat) : Int)) (k := (k : Int)) (by omega) (by omega) (by omega) (by omega)
    rw [en, Int.toNat_natCast] at this
    exact this
  have hcl : (chunk k xs).length < 100000 := by
    rw [chunk_len hk0]
    exact Nat.div_lt_of_lt_mul (by omega)
  refine lcW walk_rangeC S0 hF (fun _ z => z.elim) (fun _ _ _ => trivial) (fun i acc F1 H1 => LV F1 acc ((chunk k xs).take i)) (fun _ _ _ _ _ _ _ _ _ r => r) .nil ?_ ?_
  · rintro i x acc d F1 H1 H2 hi ⟨rfl, rfl⟩ hd nS st f0 e hl rr
    have ei : (0 : Int) + (i : Int) * (k : Int) = ((i * k : Nat) : Int) := by simp
    have ej : ((i * k : Nat) : Int) + (k : Int) = ((i * k + k : Nat) : Int) := by simp
    dsimp only; rw [ei]
    walk_at "r"
    rw [ej]
    refine s_slL ((hF.trans st.same).seq hS) fun p hp => ?_
    have s4 := Stp.new (S := S0) (o := .lst (cutV xs (some ((i * k : Nat) : Int)) (some ((i * k + k : Nat) : Int)))) st.fh hp
    refine lc_end hd nS st f0 e hl (by omega) s4 ?_
    have hg := chunk_get hk0 xs i hi
    rw [List.take_succ_eq_append_getElem hi]
    refine (rr.mono s4.ff).snoc ?_
    rw [upd_same, cutV_nat, show i * k + k - i * k = k by omega]
    rw [List.getElem?_eq_getElem hi] at hg
    rw [Option.some.inj hg]
  · intro d acc F0 F1 H1 st hd f0 ef st1 hl rr
    rw [List.take_length] at rr
    refine q d F1 H1 acc st1 (by rw [ef]; exact upd_same) (rr.mono ?_)
    rw [ef]
    exact (Stp.new (S := S0) (Same.refl F0) f0).ff
abbrev s_sum_of : Stmt := topS 25
theorem sc_sum_of : FnScope ["loads", "found", "load", "one", "other"] ["loads"] (defScope s_sum_of) := ⟨rfl, rfl, rfl, by decide +kernel, rfl, by decide +kernel, by decide +kernel⟩
def Ok_sum_of (P : Program) (w : World) (K : PySem.W.Frag) (mg : Str → Option Value) (base : Heap) : Prop := ∃ fA fd, Fn P w K mg base (L2.CX P w) 1 "sum_of" s_sum_of fA fd ["loads"] (sp_sum_of K mg)
theorem okx_sum_of (Z : Zs K mg) {fA : Addr} {fd : FuncData} (F : Fun K "sum_of" "sum_of" s_sum_of fA fd) (m : mg "sum_of" = some (.ref fA))  : Fn P w K mg base (L2.CX P w) 1 "sum_of" s_sum_of fA fd ["loads"] (sp_sum_of K mg) := by
  refine ⟨F.okX sc_sum_of (fun vs H Q E h => h.1) (fun cdv A outer s H vs Q E hr h => ?_), m, F.kp, F.binds fun _ _ _ _ _ _ us hl => match us, hl with | [_], _ => rfl, F⟩
  have hu64 := hr.units
  obtain ⟨hlen, h⟩ := h
  refine ⟨_, (pss_cons (ps_set (i := 1) sc_sum_of.nd rfl (Or.inl rfl) (pe_callTy call_list_of (by rfl) Z.z_list (by decide +kernel) (pa_cons (pe_ix (i_list K rfl) (pv 0) pe_int (fun _ _ => rfl)) pa_nil)))
    (pss_cons (ps_for (passes_of rfl) rfl (pi_list (pe_slice (l_list K rfl) (pv 0) (po_some pe_int) po_none)) (pg_name (i := 2) sc_sum_of.nd rfl (Or.inl rfl))
      (pss_one (ps_setLc (i := 1) (own := [("one", 3), ("other", 4)]) (g := gTup K 2 (gCons (gName 3) (gCons (gName 4) gNil))) (tt := tYes) (by rfl) sc_sum_of.nd rfl rfl (sw_true rfl rfl rfl (by decide +kernel)) (pi_zip (by rfl) Z.z_zip (pa_cons (pv 1) (pa_cons (pv 2) pa_nil))) (blkOk_by (own := [("one", 3), ("other", 4)]) (N := ["loads", "found", "load", "one", "other"]) (sc := defScope s_sum_of) (by decide +kernel)) (fun _ _ _ _ _ => (pg_tup rfl (pgs_cons (pg_name (i := 3) sc_sum_of.nd rfl (Or.inl rfl) (Or.inr rfl)) (pgs_cons (pg_name (i := 4) sc_sum_of.nd rfl (Or.inl rfl) (Or.inr rfl)) pgs_nil)))) (fun _ _ _ _ _ => pts_nil) (fun _ _ _ _ _ => (pe_op op_xor (pv 3) (pv 4))))))
    (pss_one (ps_ret (pv 1))))), ?_⟩
  obtain ⟨a, us, ls, rfl, hS, hR, hne, hn, hL, q⟩ := h
  obtain ⟨l0, lr, rfl⟩ : ∃ l0 lr, ls = l0 :: lr := by
    cases ls with
    | nil => exact absurd rfl hne
    | cons x y => exact ⟨x, y, rfl⟩
  obtain ⟨a0, us', rfl, h0, hr⟩ : ∃ a0 us', us = .ref a0 :: us' ∧ H a0 = some (.lst (l0.map V.int)) ∧ RL H us' lr := by
    cases hR with
    | cons h r => exact ⟨_, _, rfl, h, r⟩
  have hL0 := hL l0 (by simp)
  walk_at "r"
  refine s_ixL hS (at_of (j := 0) (by decide) rfl) ?_
  walk_at "r"
  refine ⟨a0, _, rfl, .inl (SqL.of h0), fun f hf => ?_⟩
  have e1 : Same H (upd H f (.lst (l0.map V.int))) := (Stp.new (S := S0) (Same.refl _) hf).same
  have h1 : upd H f (.lst (l0.map V.int)) f = some (.lst (l0.map V.int)) := upd_same
  generalize upd H f (.lst (l0.map V.int)) = H1 at e1 h1 ⊢
  walk_at "r"
  refine s_slL (e1.seq hS) fun p hp => ?_
  have ec : cutV (V.ref a0 :: us') (some 1) none = us' := by rw [show (some (1 : Int)) = some ((1 : Nat) : Int) from rfl, cutV_from]; rfl
  rw [ec]
  have e2 : Same H1 (upd H1 p (.lst us')) := (Stp.new (S := S0) (Same.refl _) hp).same
  have h2 : upd H1 p (.lst us') p = some (.lst us') := upd_same
  generalize upd H1 p (.lst us') = H2 at e2 h2 ⊢
  refine ⟨_, rfl, ⟨_, SqL.of h2⟩, ?_⟩
  have hr2 : RL H2 us' lr := LV.mono (e1.trans e2) hr
  refine forL (xs := us') (fun i σ H' => ∃ v q, σ = [some (.ref a), some (.ref q), v, none, none] ∧ Same H2 H' ∧ (i = 0 ∨ H q = none) ∧ H q = none ∧ H' q = some (.lst ((sumC (l0 :: lr.take i)).map V.int))) ⟨_, f, rfl, Same.refl _, .inl rfl, hf, by rw [List.take_zero, sumC_one hL0.1 hL0.2]; exact e2 _ _ h1⟩ (fun i σ H' _ ⟨_, _, _, s, _⟩ => s.seq (SqL.of h2)) ?_ ?_
  · rintro i x σ H3 hx ⟨v, q0, rfl, e3, _, hq0, hq3⟩
    obtain ⟨b, l, rfl, hl1, hb⟩ := RL.get hr2 i hx
    have hi : i < lr.length := (List.getElem?_eq_some_iff.mp hl1).1
    have hll := hL l (List.mem_cons_of_mem _ (List.mem_of_getElem? hl1))
    have et : lr.take (i + 1) = lr.take i ++ [l] := by
      rw [List.take_succ_eq_append_getElem hi]
      rw [List.getElem?_eq_getElem hi] at hl1
      rw [Option.some.inj hl1]
    obtain ⟨L1, hS1⟩ : ∃ L1, L1 = l0 :: lr.take i := ⟨_, rfl⟩
    have es : sumC (l0 :: lr.take (i + 1)) = sumC (L1 ++ [l]) := by rw [et, hS1]; rfl
    rw [← hS1] at hq3
    walk_at "r"
    refine s_iZ ?_
    walk_at "r"
    refine ⟨q0, b, _, _, rfl, SqL.of hq3, SqL.of (e3 _ _ hb), ?_⟩
    refine lcW (walk_zip (n := 48) (xs := (sumC L1).map V.int) (ys := l.map V.int) (by rw [List.length_map, List.length_map, sumC_len, hll.1]; rfl)) S0 (Same.refl H3) (fun _ z => z.elim) (fun F1 H1 st => ⟨st.same.seq (SqL.of hq3), st.same.seq (SqL.of (e3 _ _ hb))⟩) (fun j acc F1 H1 => acc = ((sumC (L1 ++ [l])).map V.int).take j) (fun _ _ _ _ _ _ _ _ _ r => r) rfl ?_ ?_
    · rintro j x acc d F1 H4 H5 hj ⟨T, x1, y1, rfl, hT, rfl, hx1, hy1⟩ hd nS st f0 e hl rr
      dsimp only at hx1 hy1
      rw [List.getElem?_map] at hx1 hy1
      have hj1 : j < (sumC L1).length := by rw [sumC_len]; exact hj
      have hj2 : j < l.length := by rw [hll.1]; exact hj
      rw [List.getElem?_eq_getElem hj1] at hx1
      rw [List.getElem?_eq_getElem hj2] at hy1
      obtain rfl := Option.some.inj hx1
      obtain rfl := Option.some.inj hy1
      have s5 := Stp.new (S := S0) (o := .tup [V.int (sumC L1)[j], V.int l[j]]) st.fh hT
      walk_at "r"
      refine lc_end hd nS st f0 e hl (by omega) s5 ?_
      have hv : Builtin.bitXor (sumC L1)[j] l[j] = ((sumC L1).getD j 0 + l.getD j 0) % 2 := by
        rw [xorB (sumC_bits L1 _ (List.getElem_mem hj1)) (hll.2 _ (List.getElem_mem hj2)), List.getD_eq_getElem?_getD, List.getD_eq_getElem?_getD, List.getElem?_eq_getElem hj1, List.getElem?_eq_getElem hj2]
        rfl
      have hsn := sumC_snoc (ls := L1) (l := l) j hj hll.1
      have hj3 : j < ((sumC (L1 ++ [l])).map V.int).length := by rw [List.length_map, sumC_len]; exact hj
      rw [rr, hv, List.take_succ_eq_append_getElem hj3]
      congr 2
      have hj4 : j < (sumC (L1 ++ [l])).length := by rw [sumC_len]; exact hj
      rw [List.getElem?_eq_getElem hj4] at hsn
      rw [List.getElem_map, Option.some.inj hsn]
    · intro d acc F0 F1 H4 st hd f0 ef st1 hl rr
      rw [ef] at st1
      refine ⟨_, d, rfl, e3.trans st.same, .inr ((e1.trans (e2.trans e3)).free hd), (e1.trans (e2.trans e3)).free hd, ?_⟩
      rw [st1.fh _ _ upd_same, rr, es, List.take_of_length_le (by rw [List.length_map, sumC_len]; exact Nat.le_refl _)]
  · rintro σ H3 ⟨v, q0, rfl, e3, _, hq0, hq3⟩
    walk_at "r"
    refine q q0 H3 (e1.trans (e2.trans e3)) hq0 ?_
    rw [hq3, RL.len hr, List.take_length]
abbrev s_is_good : Stmt := topS 26
theorem sc_is_good : FnScope ["cell"] ["cell"] (defScope s_is_good) := ⟨rfl, rfl, rfl, by decide +kernel, rfl, by decide +kernel, by decide +kernel⟩
def Ok_is_good (P : Program) (w : World) (K : PySem.W.Frag) (mg : Str → Option Value) (base : Heap) : Prop := ∃ fA fd, Fn P w K mg base (L2.CX P w) 3 "is_good" s_is_good fA fd ["cell"] (sp_is_good K mg)
theorem okx_is_good (Z : Zs K mg) {fA : Addr} {fd : FuncData} (F : Fun K "is_good" "is_good" s_is_good fA fd) (m : mg "is_good" = some (.ref fA)) (C_check_of : Ok_check_of P w K mg base) : Fn P w K mg base (L2.CX P w) 3 "is_good" s_is_good fA fd ["cell"] (sp_is_good K mg) := by
  obtain ⟨_, _, C_check_of⟩ := C_check_of
  refine ⟨F.okX sc_is_good (fun vs H Q E h => h.1) (fun cdv A outer s H vs Q E hr h => ?_), m, F.kp, F.binds fun _ _ _ _ _ _ us hl => match us, hl with | [_], _ => rfl, F⟩
  have hu64 := hr.units
  obtain ⟨hlen, h⟩ := h
  refine ⟨_, (pss_one (ps_ret (pe_cmpR (o_eqD K rfl hu64) (pe_slice (l_list K rfl) (pv 0) (po_some (pe_glob (v := .int (48)) rfl Z.c_LOAD_SIZE ⟨_, rfl⟩)) po_none) (pe_call C_check_of.G (hr.mono (by decide)) rfl C_check_of.m C_check_of.kp C_check_of.b .nil passL (pa_cons (pe_slice (l_list K rfl) (pv 0) po_none (po_some (pe_glob (v := .int (48)) rfl Z.c_LOAD_SIZE ⟨_, rfl⟩))) pa_nil)) (nomark _)))), ?_⟩
  obtain ⟨a, c, rfl, hS, hb, q⟩ := h
  walk_at "r"
  refine s_slL hS fun p hp => ?_
  have s1 := Stp.new (S := S0) (o := .lst (cutV (c.map V.int) (some 48) none)) (Same.refl H) hp
  walk_at "r"
  refine s_slL (s1.same.seq hS) fun p2 hp2 => ?_
  have s2 := Stp.new (S := S0) (o := .lst (cutV (c.map V.int) none (some 48))) s1.fh hp2
  have e1 : cutV (c.map V.int) (some 48) none = (c.drop 48).map V.int := by rw [show (some (48 : Int)) = some ((48 : Nat) : Int) from rfl, cutV_from, List.map_drop]
  have e2 : cutV (c.map V.int) none (some 48) = (c.take 48).map V.int := by rw [show (some (48 : Int)) = some ((48 : Nat) : Int) from rfl, cutV_to, List.map_take]
  walk_at "r"
  refine ⟨rfl, p2, c.take 48, rfl, SqL.of (by rw [upd_same, e2]), fun b hb2 => hb b (List.mem_of_mem_take hb2), fun p3 H3 s3 hp3 h3 => ?_⟩
  have hh := (s1.trans s2).same.trans s3
  refine s_eqL (ns := c.drop 48) (ms := fixL 8 (chk (c.take 48))) (SqL.of (s3 _ _ (s2.same _ _ ?_))) (SqL.of h3) (q H3 hh)
  rw [upd_same, e1]
abbrev s_cells_of : Stmt := topS 27
theorem sc_cells_of : FnScope ["protected", "group", "many", "rest"] ["protected", "group"] (defScope s_cells_of) := ⟨rfl, rfl, rfl, by decide +kernel, rfl, by decide +kernel, by decide +kernel⟩
def Ok_cells_of (P : Program) (w : World) (K : PySem.W.Frag) (mg : Str → Option Value) (base : Heap) : Prop := ∃ fA fd, Fn P w K mg base (L2.CX P w) 3 "cells_of" s_cells_of fA fd ["protected", "group"] (sp_cells_of K mg)
theorem okx_cells_of (Z : Zs K mg) {fA : Addr} {fd : FuncData} (F : Fun K "cells_of" "cells_of" s_cells_of fA fd) (m : mg "cells_of" = some (.ref fA)) (C_cut_up : Ok_cut_up P w K mg base) (C_want_group : Ok_want_group P w K mg base) (C_check_bits : Ok_check_bits P w K mg base) : Fn P w K mg base (L2.CX P w) 3 "cells_of" s_cells_of fA fd ["protected", "group"] (sp_cells_of K mg) := by
  obtain ⟨_, _, C_cut_up⟩ := C_cut_up
  obtain ⟨_, _, C_want_group⟩ := C_want_group
  obtain ⟨_, _, C_check_bits⟩ := C_check_bits
  refine ⟨F.okX sc_cells_of (fun vs H Q E h => h.1) (fun cdv A outer s H vs Q E hr h => ?_), m, F.kp, F.binds fun _ _ _ _ _ _ us hl => match us, hl with | [_, _], _ => rfl, F⟩
  have hu64 := hr.units
  obtain ⟨hlen, h⟩ := h
  refine ⟨_, (pss_cons (ps_expr (pe_call C_check_bits.G (hr.mono (by decide)) rfl C_check_bits.m C_check_bits.kp C_check_bits.b .nil (passes_call (takes_of rfl rfl rfl rfl) (fun _ _ _ _ h => h)) (pa_cons (pv 0) pa_nil)))
    (pss_cons (ps_expr (pe_call C_want_group.G (hr.mono (by decide)) rfl C_want_group.m C_want_group.kp C_want_group.b .nil (passes_call (takes_of rfl rfl rfl rfl) (fun _ _ _ _ h => h)) (pa_cons (pv 1) pa_nil)))
    (pss_cons (ps_asg (pe_callB c_divmod (by rfl) Z.z_divmod (by decide +kernel) (pa_cons (pe_callB (c_len K rfl) (by rfl) Z.z_len (by decide +kernel) (pa_cons (pv 0) pa_nil)) (pa_cons (pe_glob (v := .int (56)) rfl Z.c_CELL_SIZE ⟨_, rfl⟩) pa_nil))) (pg_tup rfl (pgs_cons (pg_name (i := 2) sc_cells_of.nd rfl (Or.inl rfl)) (pgs_cons (pg_name (i := 3) sc_cells_of.nd rfl (Or.inl rfl)) pgs_nil))))
    (pss_cons (ps_if (PW.pt (pw_or (pt_cmpR op_ne (pv 3) pe_int (nomark _)) (pw_or (pt_cmpR op_eq (pv 2) pe_int (nomark _)) (pw_or1 (pt_cmpR op_eq (pe_op op_mod (pv 2) (pe_op op_add (pv 1) pe_int)) pe_int (nomark _))))))
      (pss_one (ps_raise rfl (takes_of rfl rfl rfl rfl) (pmk_own0 PySem.F.excBase_ValueError Z.x_BadCells.x Z.x_BadCells.g Z.x_BadCells.k (raises_own Z.x_BadCells.b Z.x_BadCells.t) rfl)))
      pss_nil)
    (pss_one (ps_ret (pe_call C_cut_up.G (hr.mono (by decide)) rfl C_cut_up.m C_cut_up.kp C_cut_up.b .nil passL (pa_cons (pv 0) (pa_cons (pe_glob (v := .int (56)) rfl Z.c_CELL_SIZE ⟨_, rfl⟩) pa_nil))))))))), ?_⟩
  obtain ⟨F, a, ns, g, rfl, hF, hS, hlen, hh⟩ := h
  walk_at "r"
  refine ⟨rfl, a, ns, rfl, hF.seq hS, ?_⟩
  rcases hh with ⟨hg, q⟩ | ⟨hg, hn, q⟩ | hh
  · exact .inr ⟨hg, q⟩
  · refine .inl ⟨hg, ?_⟩
    walk_at "r"
    exact ⟨rfl, g, rfl, .inr ⟨hn, q⟩⟩
  obtain ⟨hg, g1, hz⟩ : ns.all goodI = true ∧ (1 ≤ g ∧ g ≤ 8) ∧ ((¬ sizeOk g.toNat ns.length ∧ ∀ H', Same H H' → E (.ref (exA mg "BadCells")) none H') ∨ (sizeOk g.toNat ns.length ∧ ∀ p F' H' acc, Stp S0 F H F' H' → F' p = some (.lst acc) → RL F' acc (chunk 56 ns) → Q (.ref p) H')) := by
    rcases hh with ⟨a, b, c⟩ | ⟨a, b, c⟩
    · exact ⟨a, b, .inl c⟩
    · exact ⟨a, b, .inr c⟩
  obtain ⟨gn, rfl⟩ : ∃ gn : Nat, g = gn := ⟨g.toNat, by omega⟩
  rw [Int.toNat_natCast] at hz
  refine .inl ⟨hg, ?_⟩
  walk_at "r"
  refine ⟨rfl, _, rfl, .inl ⟨g1.1, g1.2, ?_⟩⟩
  walk_at "r"
  refine s_len (hF.seq hS) ?_
  walk_at "r"
  refine ⟨_, _, rfl, ⟨by decide, by decide⟩, fun t ht => ?_⟩
  rw [List.length_map]
  have e1 : Same H (upd H t (.tup [.int ((ns.length : Int) / 56), .int ((ns.length : Int) % 56)])) := (Stp.new (S := S0) (Same.refl H) ht).same
  have h1 : upd H t (.tup [.int ((ns.length : Int) / 56), .int ((ns.length : Int) % 56)]) t = some (.tup [.int ((ns.length : Int) / 56), .int ((ns.length : Int) % 56)]) := upd_same
  generalize upd H t (.tup [.int ((ns.length : Int) / 56), .int ((ns.length : Int) % 56)]) = H1 at e1 h1 ⊢
  walk_at "r"
  refine ifn (fun z0 => ?_) (fun z0 => ?_)
  · walk_at "r"
    refine ifd (fun z1 => ?_) (fun z1 => ?_)
    · walk_at "r"
      rcases hz with ⟨_, q⟩ | ⟨⟨_, z, _⟩, _⟩
      · exact q H1 e1
      · omega
    walk_at "r"
    refine ifd (fun z2 => ?_) (fun z2 => ?_)
    · walk_at "r"
      rcases hz with ⟨_, q⟩ | ⟨⟨_, _, z⟩, _⟩
      · exact q H1 e1
      · exact absurd (by exact_mod_cast z2) z
    walk_at "r"
    rcases hz with ⟨z, _⟩ | ⟨_, q⟩
    · refine absurd ⟨by omega, by omega, fun w => z2 (by exact_mod_cast w)⟩ z
    refine ⟨rfl, F, a, ns.map V.int, 56, rfl, hF.trans e1, hS, by decide, by decide, by rw [List.length_map]; omega, fun p F' H' acc st hp lv => ?_⟩
    rw [chunk_map (by decide)] at lv
    exact q p F' H' acc ((Stp.ofSame hF e1).trans st) hp lv
  · walk_at "r"
    rcases hz with ⟨_, q⟩ | ⟨⟨z, _, _⟩, _⟩
    · exact q H1 e1
    · omega
abbrev s_good : Stmt := topS 28
theorem sc_good : FnScope ["protected", "group", "cell"] ["protected", "group"] (defScope s_good) := ⟨rfl, rfl, rfl, by decide +kernel, rfl, by decide +kernel, by decide +kernel⟩
def Ok_good (P : Program) (w : World) (K : PySem.W.Frag) (mg : Str → Option Value) (base : Heap) : Prop := ∃ fA fd, Fn P w K mg base (L2.CX P w) 4 "good" s_good fA fd ["protected", "group"] (sp_good K mg)
theorem okx_good (Z : Zs K mg) {fA : Addr} {fd : FuncData} (F : Fun K "good" "good" s_good fA fd) (m : mg "good" = some (.ref fA)) (C_cells_of : Ok_cells_of P w K mg base) (C_is_good : Ok_is_good P w K mg base) : Fn P w K mg base (L2.CX P w) 4 "good" s_good fA fd ["protected", "group"] (sp_good K mg) := by
  obtain ⟨_, _, C_cells_of⟩ := C_cells_of
  obtain ⟨_, _, C_is_good⟩ := C_is_good
  refine ⟨F.okX sc_good (fun vs H Q E h => h.1) (fun cdv A outer s H vs Q E hr h => ?_), m, F.kp, F.binds fun _ _ _ _ _ _ us hl => match us, hl with | [_, _], _ => rfl, F⟩
  have hu64 := hr.units
  obtain ⟨hlen, h⟩ := h
  refine ⟨_, (pss_one (ps_ret (pe_lc (own := [("cell", 2)]) (g := gName 2) (tt := tYes) (by rfl) sc_good.nd (pi_list (pe_call C_cells_of.G (hr.mono (by decide)) rfl C_cells_of.m C_cells_of.kp C_cells_of.b .nil (passes_call (takes_of rfl rfl rfl rfl) (fun _ _ _ _ h => h)) (pa_cons (pv 0) (pa_cons (pv 1) pa_nil)))) (blkOk_by (own := [("cell", 2)]) (N := ["protected", "group", "cell"]) (sc := defScope s_good) (by decide +kernel)) (fun _ _ _ _ _ => (pg_name (i := 2) sc_good.nd rfl (Or.inl rfl))) (fun _ _ _ _ _ => pts_nil) (fun _ _ _ _ _ => (pe_call C_is_good.G (hr.mono (by decide)) rfl C_is_good.m C_is_good.kp C_is_good.b .nil passL (pa_cons (pv 2) pa_nil)))))), ?_⟩
  obtain ⟨a, ns, g, rfl, hS, hlen, hh⟩ := h
  walk_at "r"
  refine ⟨rfl, H, a, ns, g, rfl, Same.refl H, hS, hlen, ?_⟩
  rcases hh with h | h | h | ⟨hg, g1, hz, q⟩
  · exact .inl h
  · exact .inr (.inl h)
  · exact .inr (.inr (.inl h))
  refine .inr (.inr (.inr ⟨hg, g1, hz, fun p F1 H1 acc st hp rl => ?_⟩))
  have hb := all_good.mp hg
  refine ⟨p, rfl, ⟨_, SqL.of (st.fh _ _ hp)⟩, ?_⟩
  have hal := RL.len rl
  have hcl : (chunk 56 ns).length < 90000 := by
    rw [chunk_len (by decide)]
    exact Nat.lt_of_le_of_lt (Nat.div_le_self _ _) (by omega)
  refine lcW (walk_list (xs := acc)) S0 st.fh (fun _ z => z.elim) (fun F2 H2 s2 => s2.same.seq (SqL.of (st.fh _ _ hp))) (fun i acc2 F2 H2 => acc2 = (((chunk 56 ns).take i).map goodL).map V.bl) (fun _ _ _ _ _ _ _ _ _ r => r) rfl ?_ ?_
  · rintro i x acc2 d F2 H2 H3 hi ⟨rfl, hx⟩ hd nS st2 f0 e hl rr
    obtain ⟨b, c, rfl, hc, hb1⟩ := RL.get rl i hx
    have hic : i < (chunk 56 ns).length := (List.getElem?_eq_some_iff.mp hc).1
    walk_at "r"
    refine ⟨rfl, b, c, rfl, SqL.of ((st.fh.trans st2.same) _ _ hb1), fun z hz => hb z (chunk_mem (by decide) (List.mem_of_getElem? hc) hz), fun H4 e4 => ?_⟩
    refine lc_end hd nS st2 f0 e hl (by omega) (.ofSame st2.fh e4) ?_
    rw [List.getElem?_eq_getElem hic] at hc
    rw [rr, List.take_succ_eq_append_getElem hic, Option.some.inj hc]; simp
  · intro d acc2 F2 F3 H3 st2 hd f0 ef st3 hl rr
    have hd3 : H3 d = some (.lst acc2) := by rw [ef] at st3; exact st3.fh _ _ upd_same
    refine q d H3 (st.same.trans st2.same) (st.same.free hd) ?_
    rw [hd3, rr, hal, List.take_length]
abbrev s_opened_group : Stmt := topS 29
theorem sc_opened_group : FnScope ["cells", "loads", "bad", "number", "others", "cell", "at", "load"] ["cells"] (defScope s_opened_group) := ⟨rfl, rfl, rfl, by decide +kernel, rfl, by decide +kernel, by decide +kernel⟩
def Ok_opened_group (P : Program) (w : World) (K : PySem.W.Frag) (mg : Str → Option Value) (base : Heap) : Prop := ∃ fA fd, Fn P w K mg base (L2.CX P w) 4 "opened_group" s_opened_group fA fd ["cells"] (sp_opened_group K mg)
theorem okx_opened_group (Z : Zs K mg) {fA : Addr} {fd : FuncData} (F : Fun K "opened_group" "opened_group" s_opened_group fA fd) (m : mg "opened_group" = some (.ref fA)) (C_sum_of : Ok_sum_of P w K mg base) (C_is_good : Ok_is_good P w K mg base) : Fn P w K mg base (L2.CX P w) 4 "opened_group" s_opened_group fA fd ["cells"] (sp_opened_group K mg) := by
  obtain ⟨_, _, C_sum_of⟩ := C_sum_of
  obtain ⟨_, _, C_is_good⟩ := C_is_good
  refine ⟨F.okX sc_opened_group (fun vs H Q E h => h.1) (fun cdv A outer s H vs Q E hr h => ?_), m, F.kp, F.binds fun _ _ _ _ _ _ us hl => match us, hl with | [_], _ => rfl, F⟩
  have hu64 := hr.units
  obtain ⟨hlen, h⟩ := h
  refine ⟨_, (pss_cons (ps_setLc (i := 1) (own := [("cell", 5)]) (g := gName 5) (tt := tYes) (by rfl) sc_opened_group.nd rfl rfl (sw_true rfl rfl rfl (by decide +kernel)) (pi_list (pv 0)) (blkOk_by (own := [("cell", 5)]) (N := ["cells", "loads", "bad", "number", "others", "cell", "at", "load"]) (sc := defScope s_opened_group) (by decide +kernel)) (fun _ _ _ _ _ => (pg_name (i := 5) sc_opened_group.nd rfl (Or.inl rfl))) (fun _ _ _ _ _ => pts_nil) (fun _ _ _ _ _ => (pe_slice (l_list K rfl) (pv 5) po_none (po_some (pe_glob (v := .int (48)) rfl Z.c_LOAD_SIZE ⟨_, rfl⟩)))))
    (pss_cons (ps_setLc (i := 2) (own := [("number", 3), ("cell", 5)]) (g := gTup K 2 (gCons (gName 3) (gCons (gName 5) gNil))) (tt := _) (by rfl) sc_opened_group.nd rfl rfl (sw_true rfl rfl rfl (by decide +kernel)) (pi_enum (by rfl) Z.z_enumerate (pa_cons (pv 0) pa_nil)) (blkOk_by (own := [("number", 3), ("cell", 5)]) (N := ["cells", "loads", "bad", "number", "others", "cell", "at", "load"]) (sc := defScope s_opened_group) (by decide +kernel)) (fun _ _ _ _ _ => (pg_tup rfl (pgs_cons (pg_name (i := 3) sc_opened_group.nd rfl (Or.inl rfl) (Or.inr rfl)) (pgs_cons (pg_name (i := 5) sc_opened_group.nd rfl (Or.inl rfl) (Or.inr rfl)) pgs_nil)))) (fun _ _ _ _ _ => pts_one (pt_not (pt_val (pe_call C_is_good.G (hr.mono (by decide)) rfl C_is_good.m C_is_good.kp C_is_good.b .nil passL (pa_cons (pv 5) pa_nil))))) (fun _ _ _ _ _ => (pv 3)))
    (pss_cons (ps_for (passes_of rfl) rfl (pi_list (pv 2)) (pg_name (i := 3) sc_opened_group.nd rfl (Or.inr rfl))
      (pss_cons (ps_setLc (i := 4) (own := [("at", 6), ("load", 7)]) (g := gTup K 2 (gCons (gName 6) (gCons (gName 7) gNil))) (tt := _) (by rfl) sc_opened_group.nd rfl rfl (sw_true rfl rfl rfl (by decide +kernel)) (pi_enum (by rfl) Z.z_enumerate (pa_cons (pv 1) pa_nil)) (blkOk_by (own := [("at", 6), ("load", 7)]) (N := ["cells", "loads", "bad", "number", "others", "cell", "at", "load"]) (sc := defScope s_opened_group) (by decide +kernel)) (fun _ _ _ _ _ => (pg_tup rfl (pgs_cons (pg_name (i := 6) sc_opened_group.nd rfl (Or.inl rfl) (Or.inr rfl)) (pgs_cons (pg_name (i := 7) sc_opened_group.nd rfl (Or.inl rfl) (Or.inr rfl)) pgs_nil)))) (fun _ _ _ _ _ => pts_one (pt_cmpR op_ne (pv 6) (pv 3) (nomark _))) (fun _ _ _ _ _ => (pv 7)))
    (pss_one (ps_asg (pe_ifExp (pt_cmpR op_eq (pe_callB (c_len K rfl) (by rfl) Z.z_len (by decide +kernel) (pa_cons (pv 2) pa_nil)) pe_int (nomark _)) (pe_call C_sum_of.G (hr.mono (by decide)) rfl C_sum_of.m C_sum_of.kp C_sum_of.b .nil passL (pa_cons (pv 4) pa_nil)) pe_non) (pg_sub (pv 1) (pv 3) set_list)))))
    (pss_one (ps_ret (pe_slice (l_list K rfl) (pv 1) po_none (po_some (pe_un un_neg pe_int)))))))), ?_⟩
  obtain ⟨F, a, us, cs, rfl, hF, hS, hR, hn2, hn9, hC, q⟩ := h
  walk_at "r"
  have hul : us.length = cs.length := RL.len hR
  refine ⟨a, rfl, ⟨_, hF.seq hS⟩, ?_⟩
  refine lcW (walk_list (xs := us)) S0 hF (fun _ z => z.elim) (fun F1 H1 st => st.same.seq (hF.seq hS)) (fun (i : Nat) (acc : List V) (F1 _ : Hp) => RL F1 acc ((cs.map (fun c : List Int => c.take 48)).take i)) (fun _ _ _ _ _ _ _ _ _ r => r) .nil ?_ ?_
  · rintro i x acc d F1 H1 H2 hi ⟨rfl, hx⟩ hd nS st f0 e hl rr
    obtain ⟨b, c, rfl, hc, hb⟩ := RL.get hR i hx
    have his : i < cs.length := by omega
    walk_at "r"
    refine s_slL (SqL.of ((hF.trans st.same) _ _ hb)) fun p hp => ?_
    have ec : cutV (c.map V.int) none (some 48) = (c.take 48).map V.int := by rw [show (some (48 : Int)) = some ((48 : Nat) : Int) from rfl, cutV_to, List.map_take]
    rw [ec]
    have s4 := Stp.new (S := S0) (o := .lst ((c.take 48).map V.int)) st.fh hp
    refine lc_end hd nS st f0 e hl (by omega) s4 ?_
    have his2 : i < (cs.map (·.take 48)).length := by rw [List.length_map]; exact his
    rw [List.take_succ_eq_append_getElem his2, List.getElem_map]
    rw [List.getElem?_eq_getElem his] at hc
    rw [Option.some.inj hc]
    exact RL.snoc (LV.mono s4.ff rr) upd_same
  · intro d acc F0 F1 H1 st hd f0 ef st1 hl rr
    have hd1 : H1 d = some (.lst acc) := by rw [ef] at st1; exact st1.fh _ _ upd_same
    rw [List.take_of_length_le (by rw [List.length_map, hul]; exact Nat.le_refl _)] at rr
    clear st1 ef F1 hl
    walk_at "r"
    refine s_iE ?_
    walk_at "r"
    refine ⟨a, us, rfl, st.fh.seq (st.ff.seq hS), ?_⟩
    refine lcW (walk_enum (xs := us)) S0 st.fh (fun _ z => z.elim) (fun F2 H2 st2 => st2.same.seq (st.fh.seq (st.ff.seq hS))) (fun i acc F2 H2 => acc = (((List.range i).filter fun i => !goodL (cs.getD i [])).map (Int.ofNat)).map V.int) (fun _ _ _ _ _ _ _ _ _ r => r) rfl ?_ ?_
    · rintro i x acc2 d2 F2 H2 H3 hi ⟨T, x1, y1, rfl, hT, rfl, hx1, hy1⟩ hd2 nS st2 f2 e hl2 rr2
      obtain ⟨b, c, rfl, hc, hb⟩ := RL.get hR i hy1
      have his : i < cs.length := by omega
      have hcm := hC c (List.mem_of_getElem? hc)
      have e3 : Same H2 (upd H2 T (.tup [x1, V.ref b])) := (Stp.new (S := S0) (Same.refl _) hT).same
      walk_at "r"
      refine ⟨rfl, b, c, rfl, SqL.of (e3 _ _ ((st.fh.trans st2.same) _ _ (st.ff _ _ hb))), hcm.2, fun H4 e4 => ?_⟩
      have egd : cs.getD i [] = c := by rw [List.getD_eq_getElem?_getD, hc]; rfl
      cases gg : goodL c with
      | true =>
        walk_at "r"
        refine lc_skip hd2 nS st2 f2 e hl2 (.ofSame st2.fh (e3.trans e4)) ?_
        rw [rr2, List.range_succ, List.filter_append, List.filter_cons, egd, gg]; simp
      | false =>
        walk_at "r"
        refine lc_end hd2 nS st2 f2 e hl2 (by omega) (.ofSame st2.fh (e3.trans e4)) ?_
        rw [rr2, List.range_succ, List.filter_append, List.filter_cons, egd, gg, ← Option.some.inj hx1]; simp
    · intro d2 acc2 F2 F3 H3 st2 hd2 f2 ef2 st3 hl2 rr2
      rw [hul] at rr2
      have ebad : acc2 = ((badI cs).map Int.ofNat).map V.int := rr2
      have hd3 : F3 d2 = some (.lst acc2) := by rw [ef2]; exact upd_same
      have stF := st.trans st3
      have dF : F3 d = none := (st3.fo _ _ hd1).trans f0
      have hdd := st3.same _ _ hd1
      have rl0 : RL F3 acc (cs.map (·.take 48)) := LV.mono st3.ff rr
      have hblen : acc2.length = (badI cs).length := by rw [ebad]; simp
      clear ef2 f2 st2 rr2 F2
      walk_at "r"
      refine ⟨d2, rfl, ⟨_, SqL.of (st3.fh _ _ hd3)⟩, ?_⟩
      refine forL (xs := acc2) (fun i σ H' => ∃ v3 v4 Fi accV, σ = [some (.ref a), some (.ref d), some (.ref d2), v3, v4, none, none, none] ∧ Stp S0 F H Fi H' ∧ Same F3 Fi ∧ Fi d = none ∧ H' d = some (.lst accV) ∧ LO Fi accV (stO cs i) ∧ (i = 0 → accV = acc)) ⟨_, _, F3, acc, rfl, stF, Same.refl _, dF, hdd, by
          have := LO.ofRL rl0
          rw [List.map_map] at this
          rw [stO_zero]; exact this, fun _ => rfl⟩ (fun i σ H' _ ⟨_, _, _, _, _, s, s', _⟩ => SqL.of (s.fh _ _ (s' _ _ hd3))) ?_ ?_
      · rintro i x σ H4 hx ⟨v3, v4, Fi, accV, rfl, s4, e34, fd, hd4, lo, h0⟩
        have hib : i < (badI cs).length := by
          have := (List.getElem?_eq_some_iff.mp hx).1
          omega
        obtain ⟨k, hk⟩ : ∃ k, (badI cs)[i] = k := ⟨_, rfl⟩
        have hkm : k ∈ badI cs := hk ▸ List.getElem_mem hib
        have hkc := badI_lt hkm
        have hxk : x = .int (k : Int) := by
          rw [ebad, List.getElem?_map, List.getElem?_map, List.getElem?_eq_getElem hib, hk] at hx
          exact (Option.some.inj hx).symm
        subst hxk
        have hal : accV.length = cs.length := by rw [lo.len, stO_len]
        walk_at "r"
        refine s_iE ?_
        walk_at "r"
        refine ⟨d, accV, rfl, SqL.of hd4, ?_⟩
        refine lcW (walk_enum (xs := accV)) S0 s4.fh (fun _ z => z.elim) (fun F2 H2 st2 => SqL.of (st2.same _ _ hd4)) (fun j acc5 F2 H2 => acc5 = (accV.take j).eraseIdx k) (fun _ _ _ _ _ _ _ _ _ r => r) (by simp) ?_ ?_
        · rintro j x acc5 d5 F5 H5 H6 hj ⟨T, x1, y1, rfl, hT, rfl, hx1, hy1⟩ hd5 nS st5 f5 e5 hl5 rr5
          have e6 : Same H5 (upd H5 T (.tup [x1, y1])) := (Stp.new (S := S0) (Same.refl _) hT).same
          obtain rfl := Option.some.inj hx1
          dsimp only at hy1
          have etk : accV.take (j + 1) = accV.take j ++ [y1] := by
            have hj' : j < accV.length := hj
            rw [List.take_succ_eq_append_getElem hj']
            rw [List.getElem?_eq_getElem hj'] at hy1
            rw [Option.some.inj hy1]
          have hjl : (accV.take j).length = j := by rw [List.length_take]; omega
          walk_at "r"
          refine ifn (fun z => ?_) (fun z => ?_)
          · have z' : j = k := by exact_mod_cast z
            refine lc_skip hd5 nS st5 f5 e5 hl5 (.ofSame st5.fh e6) ?_
            rw [rr5, etk, List.eraseIdx_of_length_le (by omega), List.eraseIdx_append_of_length_le (by omega), hjl, z', Nat.sub_self]
            simp
          · have z' : j ≠ k := fun w => z (by exact_mod_cast w)
            walk_at "r"
            refine lc_end hd5 nS st5 f5 e5 hl5 (by omega) (.ofSame st5.fh e6) ?_
            rw [rr5, etk]
            by_cases w : j < k
            · rw [List.eraseIdx_of_length_le (by omega), List.eraseIdx_of_length_le (by rw [List.length_append, hjl, List.length_singleton]; omega)]
            · rw [List.eraseIdx_append_of_lt_length (by omega)]
        · intro d5 acc5 F5 F6 H6 st5 hd5 f5 ef5 st6 hl5 rr5
          rw [List.take_length] at rr5
          have h6 : H6 d5 = some (.lst acc5) := by rw [ef5] at st6; exact st6.fh _ _ upd_same
          have e46 := st5.same
          have hd6 := e46 _ _ hd4
          have hd23 : H6 d2 = some (.lst acc2) := e46 _ _ (s4.fh _ _ (e34 _ _ hd3))
          have s46 : Stp S0 F H Fi H6 := s4.trans (.ofSame s4.fh e46)
          walk_at "r"
          rw [hblen]
          refine ifd (fun z => ?_) (fun z => ?_)
          · have z' : (badI cs).length = 1 := by exact_mod_cast z
            have hi0 : i = 0 := by omega
            have hacc := h0 hi0
            subst hacc
            have rlE : RL H6 acc5 ((cs.map (·.take 48)).eraseIdx k) := by rw [rr5]; exact RL.erase k (LV.mono (e34.trans s46.fh) rl0)
            have hel : ((cs.map (·.take 48)).eraseIdx k).length = cs.length - 1 := by rw [List.length_eraseIdx, List.length_map, if_pos hkc]
            walk_at "r"
            refine ⟨rfl, d5, acc5, _, rfl, SqL.of h6, rlE, fun w => by rw [w] at hel; simp at hel; omega, by omega, fun l hl => ?_, fun y H7 e7 y0 hy => ?_⟩
            · obtain ⟨c, hc, rfl⟩ := List.mem_map.mp (List.mem_of_mem_eraseIdx hl)
              have := hC c hc
              exact ⟨by rw [List.length_take]; omega, fun w hw => this.2 w (List.mem_of_mem_take hw)⟩
            have hyd : y ≠ d := fun w => by rw [w, hd6] at y0; cases y0
            have s7 := Stp.got (S := S0) s46.fh e7 y0 hy
            have hd7 := e7 _ _ hd6
            walk_at "r"
            refine s_setL hd7 (ixN_of (by omega)) ?_
            have s8 := (s46.trans s7).wrNew (o := .lst (accV.set k (.ref y))) hd (by rw [upd_ne hyd.symm]; exact fd)
            refine ⟨_, _, _, _, rfl, s8, e34.trans s7.ff, by rw [upd_ne hyd.symm]; exact fd, upd_same, ?_, fun w => by omega⟩
            rw [stO_succ hib, hk]
            unfold fillO
            rw [if_pos z']
            exact (LO.mono s7.ff lo).setS upd_same k
          · have z' : ¬ (badI cs).length = 1 := fun w => z (by exact_mod_cast w)
            walk_at "r"
            refine s_setL hd6 (ixN_of (by omega)) ?_
            have s8 := s46.wrNew (o := .lst (accV.set k .non)) hd fd
            refine ⟨_, _, _, _, rfl, s8, e34, fd, upd_same, ?_, fun w => by omega⟩
            rw [stO_succ hib, hk]
            unfold fillO
            rw [if_neg z']
            exact lo.setN k
      · rintro σ H4 ⟨v3, v4, Fi, accV, rfl, s4, e34, fd, hd4, lo, _⟩
        walk_at "r"
        refine s_slL (SqL.of hd4) fun p hp => ?_
        rw [cutV_m1]
        have s5 := Stp.new (S := S0) (o := .lst accV.dropLast) s4.fh hp
        refine q p _ _ accV.dropLast (s4.trans s5) upd_same ?_
        rw [hblen] at lo
        have := LO.take (accV.length - 1) (LO.mono s5.ff lo)
        rw [← List.dropLast_eq_take, lo.len, ← List.dropLast_eq_take] at this
        exact this
abbrev s_count_told : Stmt := topS 30
theorem sc_count_told : FnScope ["load", "told"] ["load"] (defScope s_count_told) := ⟨rfl, rfl, rfl, by decide +kernel, rfl, by decide +kernel, by decide +kernel⟩
def Ok_count_told (P : Program) (w : World) (K : PySem.W.Frag) (mg : Str → Option Value) (base : Heap) : Prop := ∃ fA fd, Fn P w K mg base (L2.CX P w) 3 "count_told" s_count_told fA fd ["load"] (sp_count_told K mg)
theorem okx_count_told (Z : Zs K mg) {fA : Addr} {fd : FuncData} (F : Fun K "count_told" "count_told" s_count_told fA fd) (m : mg "count_told" = some (.ref fA)) (C_count_at : Ok_count_at P w K mg base) : Fn P w K mg base (L2.CX P w) 3 "count_told" s_count_told fA fd ["load"] (sp_count_told K mg) := by
  obtain ⟨_, _, C_count_at⟩ := C_count_at
  refine ⟨F.okX sc_count_told (fun vs H Q E h => h.1) (fun cdv A outer s H vs Q E hr h => ?_), m, F.kp, F.binds fun _ _ _ _ _ _ us hl => match us, hl with | [_], _ => rfl, F⟩
  have hu64 := hr.units
  obtain ⟨hlen, h⟩ := h
  refine ⟨_, (pss_cons (ps_set (i := 1) sc_count_told.nd rfl (Or.inl rfl) (pe_call C_count_at.G (hr.mono (by decide)) rfl C_count_at.m C_count_at.kp C_count_at.b .nil passL (pa_cons (pv 0) (pa_cons pe_int pa_nil))))
    (pss_cons (ps_if (PW.pt (pw_or (pt_cmpR op_ne (pe_ix (i_tup K rfl) (pv 1) pe_int (fun _ _ => rfl)) pe_str (nomark _)) (pw_or1 (pt_cmpR op_gt (pe_ix (i_tup K rfl) (pv 1) pe_int (fun _ _ => rfl)) (pe_glob (v := .int (1000000)) rfl Z.c_MOST_BITS ⟨_, rfl⟩) (nomark _)))))
      (pss_one (ps_raise rfl (takes_of rfl rfl rfl rfl) (pmk_own0 PySem.F.excBase_ValueError Z.x_BadCells.x Z.x_BadCells.g Z.x_BadCells.k (raises_own Z.x_BadCells.b Z.x_BadCells.t) rfl)))
      pss_nil)
    (pss_one (ps_ret (pe_tup (pa_cons (pe_ix (i_tup K rfl) (pv 1) pe_int (fun _ _ => rfl)) (pa_cons (pe_ix (i_tup K rfl) (pv 1) pe_int (fun _ _ => rfl)) pa_nil))))))), ?_⟩
  obtain ⟨a, l, rfl, hS, hl, hb, hh⟩ := h
  walk_at "r"
  refine ⟨rfl, a, l, 0, rfl, hS, by omega, by omega, fun t H1 e1 _ ht => ?_⟩
  unfold cntR at ht
  unfold cntT at hh
  simp only [Nat.zero_add] at ht
  by_cases c1 : 40 < min 41 (zrun l 0)
  · rw [if_pos c1] at ht hh
    walk_at "r"
    refine ifn (fun h => absurd h (by decide)) (fun _ => ?_)
    walk_at "r"
    rcases hh with ⟨_, q⟩ | ⟨_, _, z, _⟩
    · exact q H1 e1
    · cases z
  rw [if_neg c1] at ht hh
  by_cases c2 : l.length < min 41 (zrun l 0) + min 41 (zrun l 0) + 1
  · rw [if_pos c2] at ht hh
    walk_at "r"
    refine ifn (fun h => absurd h (by decide)) (fun _ => ?_)
    walk_at "r"
    rcases hh with ⟨_, q⟩ | ⟨_, _, z, _⟩
    · exact q H1 e1
    · cases z
  rw [if_neg c2] at ht hh
  have hz : min 41 (zrun l 0) = zrun l 0 := by omega
  have hn0 : 0 ≤ numL ((l.drop (min 41 (zrun l 0))).take (min 41 (zrun l 0) + 1)) - 1 := by
    have hzl : zrun l 0 < l.length := by omega
    rw [hz, List.drop_eq_getElem_cons hzl, List.take_succ_cons, numL_cons]
    have hne := zrun_end (bs := l) (a := 0)
    rw [Nat.zero_add, List.getElem?_eq_getElem hzl] at hne
    have h1 : l[zrun l 0] = 1 := by
      rcases hb _ (List.getElem_mem hzl) with h | h
      · exact absurd (congrArg some h) hne
      · exact h
    have hb2 : isBits ((l.drop (zrun l 0 + 1)).take (zrun l 0)) := fun x hx => hb x (List.mem_of_mem_drop (List.mem_of_mem_take hx))
    rw [h1, numN_eq _ hb2]
    have hp : (1 : Int) ≤ 2 ^ ((l.drop (zrun l 0 + 1)).take (zrun l 0)).length := by
      have := Nat.one_le_two_pow (n := ((l.drop (zrun l 0 + 1)).take (zrun l 0)).length)
      exact_mod_cast this
    omega
  walk_at "r"
  refine ifn (fun _ => ?_) (fun h => absurd rfl h)
  walk_at "r"
  refine ifd (fun h => ?_) (fun h => ?_)
  · walk_at "r"
    rw [if_neg (by omega)] at hh
    rcases hh with ⟨_, q⟩ | ⟨_, _, z, _⟩
    · exact q H1 e1
    · cases z
  · rw [if_pos (by omega)] at hh
    walk_at "r"
    rcases hh with ⟨z, _⟩ | ⟨n, p, z, q⟩
    · cases z
    · obtain ⟨rfl, rfl⟩ := Prod.mk.inj (Option.some.inj z)
      refine ⟨sz (by simp), fun p2 hp2 => q p2 _ (e1.trans (Stp.new (S := S0) (Same.refl _) hp2).same) ?_⟩
      rw [upd_same, Int.toNat_of_nonneg hn0]
abbrev s_open_cells : Stmt := topS 31
theorem sc_open_cells : FnScope ["protected", "group", "loads", "cells", "many", "begin", "end", "told", "load"] ["protected", "group"] (defScope s_open_cells) := ⟨rfl, rfl, rfl, by decide +kernel, rfl, by decide +kernel, by decide +kernel⟩
def Ok_open_cells (P : Program) (w : World) (K : PySem.W.Frag) (mg : Str → Option Value) (base : Heap) : Prop := ∃ fA fd, Fn P w K mg base (L2.CX P w) 5 "open_cells" s_open_cells fA fd ["protected", "group"] (sp_open_cells K mg)
theorem okx_open_cells (Z : Zs K mg) {fA : Addr} {fd : FuncData} (F : Fun K "open_cells" "open_cells" s_open_cells fA fd) (m : mg "open_cells" = some (.ref fA)) (C_count_told : Ok_count_told P w K mg base) (C_cut_up : Ok_cut_up P w K mg base) (C_cells_of : Ok_cells_of P w K mg base) (C_opened_group : Ok_opened_group P w K mg base) : Fn P w K mg base (L2.CX P w) 5 "open_cells" s_open_cells fA fd ["protected", "group"] (sp_open_cells K mg) := by
  obtain ⟨_, _, C_count_told⟩ := C_count_told
  obtain ⟨_, _, C_cut_up⟩ := C_cut_up
  obtain ⟨_, _, C_cells_of⟩ := C_cells_of
  obtain ⟨_, _, C_opened_group⟩ := C_opened_group
  refine ⟨F.okX sc_open_cells (fun vs H Q E h => h.1) (fun cdv A outer s H vs Q E hr h => ?_), m, F.kp, F.binds fun _ _ _ _ _ _ us hl => match us, hl with | [_, _], _ => rfl, F⟩
  have hu64 := hr.units
  obtain ⟨hlen, h⟩ := h
  refine ⟨_, (pss_cons (ps_set (i := 2) sc_open_cells.nd rfl (Or.inl rfl) (pe_lst pa_nil))
    (pss_cons (ps_for (passes_of rfl) rfl (pi_list (pe_call C_cut_up.G (hr.mono (by decide)) rfl C_cut_up.m C_cut_up.kp C_cut_up.b .nil passL (pa_cons (pe_call C_cells_of.G (hr.mono (by decide)) rfl C_cells_of.m C_cells_of.kp C_cells_of.b .nil (passes_call (takes_of rfl rfl rfl rfl) (fun _ _ _ _ h => h)) (pa_cons (pv 0) (pa_cons (pv 1) pa_nil))) (pa_cons (pe_op op_add (pv 1) pe_int) pa_nil)))) (pg_name (i := 3) sc_open_cells.nd rfl (Or.inl rfl))
      (pss_one (ps_expr (pe_bm PySem.F.plainAttrs_list PySem.F.slot_list_extend PySem.F.type_list_extend mt_extend (pv 2) (pa_cons (pe_call C_opened_group.G (hr.mono (by decide)) rfl C_opened_group.m C_opened_group.kp C_opened_group.b .nil passL (pa_cons (pv 3) pa_nil)) pa_nil)))))
    (pss_cons (ps_if (pt_cmpR op_isN (pe_ix (i_list K rfl) (pv 2) pe_int (fun _ _ => rfl)) pe_non (nomark _))
      (pss_one (ps_ret pe_non))
      pss_nil)
    (pss_cons (ps_asg (pe_call C_count_told.G (hr.mono (by decide)) rfl C_count_told.m C_count_told.kp C_count_told.b .nil (passes_call (takes_of rfl rfl rfl rfl) (fun _ _ _ _ h => h)) (pa_cons (pe_ix (i_list K rfl) (pv 2) pe_int (fun _ _ => rfl)) pa_nil)) (pg_tup rfl (pgs_cons (pg_name (i := 4) sc_open_cells.nd rfl (Or.inl rfl)) (pgs_cons (pg_name (i := 5) sc_open_cells.nd rfl (Or.inl rfl)) pgs_nil))))
    (pss_cons (ps_set (i := 6) sc_open_cells.nd rfl (Or.inl rfl) (pe_op op_add (pv 5) (pv 4)))
    (pss_cons (ps_if (pt_cmpR op_ne (pe_un un_neg (pe_op op_fdiv (pe_un un_neg (pv 6)) (pe_glob (v := .int (48)) rfl Z.c_LOAD_SIZE ⟨_, rfl⟩))) (pe_callB (c_len K rfl) (by rfl) Z.z_len (by decide +kernel) (pa_cons (pv 2) pa_nil)) (nomark _))
      (pss_one (ps_raise rfl (takes_of rfl rfl rfl rfl) (pmk_own0 PySem.F.excBase_ValueError Z.x_BadCells.x Z.x_BadCells.g Z.x_BadCells.k (raises_own Z.x_BadCells.b Z.x_BadCells.t) rfl)))
      pss_nil)
    (pss_cons (ps_set (i := 7) sc_open_cells.nd rfl (Or.inl rfl) (pe_lst pa_nil))
    (pss_cons (ps_for (passes_of rfl) rfl (pi_list (pv 2)) (pg_name (i := 8) sc_open_cells.nd rfl (Or.inl rfl))
      (pss_one (ps_expr (pe_bm PySem.F.plainAttrs_list PySem.F.slot_list_extend PySem.F.type_list_extend mt_extend (pv 7) (pa_cons (pe_ifExp (pt_cmpR op_isN (pv 8) pe_non (nomark _)) (pe_op op_rep (pe_lst (pa_cons pe_non pa_nil)) (pe_glob (v := .int (48)) rfl Z.c_LOAD_SIZE ⟨_, rfl⟩)) (pv 8)) pa_nil)))))
    (pss_cons (ps_if (pt_cmpR (o_in K rfl) pe_int (pe_slice (l_list K rfl) (pv 7) (po_some (pv 6)) po_none) rfl)
      (pss_one (ps_raise rfl (takes_of rfl rfl rfl rfl) (pmk_own0 PySem.F.excBase_ValueError Z.x_BadCells.x Z.x_BadCells.g Z.x_BadCells.k (raises_own Z.x_BadCells.b Z.x_BadCells.t) rfl)))
      pss_nil)
    (pss_one (ps_ret (pe_slice (l_list K rfl) (pv 7) (po_some (pv 5)) (po_some (pv 6)))))))))))))), ?_⟩
  obtain ⟨a, ns, g, rfl, hS, hlen, q⟩ := h
  walk_at "r"
  refine ⟨sz (by simp), fun lf hlf => ?_⟩
  have h1 : upd H lf (.lst []) lf = some (.lst []) := upd_same
  have e1 : Same H (upd H lf (.lst [])) := (Stp.new (S := S0) (Same.refl _) hlf).same
  generalize upd H lf (.lst []) = H1 at e1 h1 ⊢
  walk_at "r"
  refine ⟨rfl, H, a, ns, g, rfl, e1, hS, hlen, ?_⟩
  unfold openR at q
  by_cases c1 : ns.all goodI = false
  · rw [if_pos c1] at q
    exact .inl ⟨c1, q H1 e1⟩
  rw [if_neg c1] at q
  have hg : ns.all goodI = true := by simpa using c1
  by_cases c2 : ¬ (1 ≤ g ∧ g ≤ 8)
  · rw [if_pos c2] at q
    exact .inr (.inl ⟨hg, c2, q H1 e1⟩)
  rw [if_neg c2] at q
  have g1 : 1 ≤ g ∧ g ≤ 8 := Decidable.not_not.mp c2
  obtain ⟨gn, rfl⟩ : ∃ gn : Nat, g = gn := ⟨g.toNat, by omega⟩
  rw [Int.toNat_natCast] at q
  by_cases c3 : ¬ sizeOk gn ns.length
  · rw [if_pos c3] at q
    exact .inr (.inr (.inl ⟨hg, g1, c3, fun H' s => q H' (e1.trans s)⟩))
  rw [if_neg c3] at q
  have c3 : sizeOk gn ns.length := Decidable.not_not.mp c3
  refine .inr (.inr (.inr ⟨hg, g1, c3, fun p1 F1 H2 acc1 st1 hp1 rl1 => ?_⟩))
  obtain ⟨sz1, sz2, sz3⟩ := c3
  have hb := all_good.mp hg
  have g0 : 0 < gn := by omega
  obtain ⟨n, hn⟩ : ∃ n, ns.length = n * 56 := ⟨ns.length / 56, by omega⟩
  obtain ⟨cs, hcs⟩ : ∃ cs, chunk 56 ns = cs := ⟨_, rfl⟩
  have hC : Cls cs := fun c hc => ⟨chunk_whole (by decide) ns n hn c (by rw [hcs]; exact hc), fun x hx => hb x (chunk_mem (k := 56) (by decide) (by rw [hcs]; exact hc) hx)⟩
  have hcl : cs.length = ns.length / 56 := by
    have := flat_len cs (fun c hc => (hC c hc).1)
    rw [← hcs, chunk_flatten (by decide), hcs] at this
    omega
  rw [hcs] at rl1
  have f1 : F1 lf = none := (st1.fo _ _ h1).trans hlf
  have h2 : H2 lf = some (.lst []) := st1.same _ _ h1
  have hal := RL.len rl1
  walk_at "r"
  refine ⟨rfl, F1, p1, acc1, gn + 1, by simp, st1.fh, SqL.of hp1, by omega, by omega, by omega, fun p2 F2 H3 acc2 st2 hp2 lv2 => ?_⟩
  have f2 : F2 lf = none := (st2.fo _ _ h2).trans f1
  have h3 : H3 lf = some (.lst []) := st2.same _ _ h2
  have rl2 : RL F2 acc1 cs := LV.mono st2.ff rl1
  have hgl : acc2.length = (chunk (gn + 1) cs).length := by rw [lv2.len, chunk_len (by omega), chunk_len (by omega), hal]
  have hq : loadsO gn ns = ((chunk (gn + 1) cs).map openG).flatten := by rw [loadsO, hcs]
  have hgb : (chunk (gn + 1) cs).length ≤ 2000 := by
    rw [chunk_len (by omega)]
    exact Nat.le_trans (Nat.div_le_self _ _) (by omega)
  walk_at "r"
  refine ⟨p2, rfl, ⟨_, SqL.of (st2.fh _ _ hp2)⟩, ?_⟩
  refine forL (xs := acc2) (fun i σ H' => ∃ v3 Fi accs, σ = [some (.ref a), some (.int gn), some (.ref lf), v3, none, none, none, none, none] ∧ Same F2 Fi ∧ Same Fi H' ∧ Fi lf = none ∧ Same H H' ∧ H' lf = some (.lst accs) ∧ LO Fi accs ((((chunk (gn + 1) cs).take i).map openG).flatten) ∧ accs.length ≤ 9 * i)
    ⟨_, F2, [], rfl, Same.refl _, st2.fh, f2, e1.trans (st1.same.trans st2.same), h3, .nil, by simp⟩ (fun i σ H' _ ⟨_, _, _, _, s, s', _⟩ => s'.seq (SqL.of (s _ _ hp2))) ?_ ?_
  · rintro i x σ H4 hx ⟨v3, Fi, accs, rfl, eF, e4, fn, e04, h4, lo, hlo⟩
    obtain ⟨b, l, rfl, hl1, hb1⟩ := LV.get i lv2 hx
    have hi : i < (chunk (gn + 1) acc1).length := (List.getElem?_eq_some_iff.mp hl1).1
    have hi2 : i < (chunk (gn + 1) cs).length := by rw [← hgl, lv2.len]; exact hi
    obtain ⟨s, hs⟩ : ∃ s, (chunk (gn + 1) cs)[i]? = some s := ⟨_, List.getElem?_eq_getElem hi2⟩
    have hs2 := hs
    rw [chunk_get (by omega) _ i hi2] at hs2
    rw [chunk_get (by omega) _ i hi] at hl1
    have rls : RL F2 l s := by
      rw [← Option.some.inj hl1, ← Option.some.inj hs2]
      exact RL.take _ (RL.drop _ rl2)
    have hsm := List.mem_of_getElem? hs
    have slen : s.length ≤ gn + 1 := by rw [← Option.some.inj hs2, List.length_take]; omega
    have slen2 := chunk_two (by omega) (cs := cs) (by rw [hcl]; exact sz3) s hsm
    walk_at "r"
    refine ⟨.inl ⟨rfl, _, SqL.of h4⟩, ?_⟩
    walk_at "r"
    refine ⟨rfl, Fi, b, l, s, rfl, e4, SqL.of (eF _ _ hb1), LV.mono eF rls, slen2, by omega, fun c hc => hC c (chunk_mem (by omega) hsm hc), fun y F' H5 acc' st' hy lo' => ?_⟩
    walk_at "r"
    have lb := lo'.len
    rw [openG_len] at lb
    refine ⟨lf, y, _, _, rfl, rfl, st'.same _ _ h4, st'.fh _ _ hy, Nat.le_trans (m := 100000) (by omega) (by decide), ?_⟩
    have f' : F' lf = none := (st'.fo _ _ h4).trans fn
    refine ⟨_, F', accs ++ acc', rfl, eF.trans st'.ff, (Stp.wr (S := S1 lf) st'.fh rfl f').fh, f', fun b' o' h' => ?_, upd_same, ?_, by rw [List.length_append]; omega⟩
    · rw [upd_ne (ne_of_none h' hlf)]; exact st'.same _ _ (e04 _ _ h')
    · have := LO.app (LO.mono st'.ff lo) lo'
      rw [List.getElem?_eq_getElem hi2] at hs
      rw [List.take_succ_eq_append_getElem hi2, List.map_append, List.flatten_append, Option.some.inj hs]
      simpa using this
  · rintro σ H4 ⟨v3, Fi, accs, rfl, eF, e4, fn, e04, h4, lo, hlo⟩
    rw [hgl, List.take_length, ← hq] at lo
    rw [hgl] at hlo
    have la := lo.len
    have hL48 : ∀ o ∈ loadsO gn ns, ∀ l, o = some l → l.length = 48 ∧ isBits l := by
      rw [hq]; exact openG_lds hC
    have h0L : loadsO gn ns ≠ [] := by
      rw [hq]; exact loadsO_ne (by omega) (by rw [hcl]; exact sz2) (by rw [hcl]; exact sz3)
    have hLb : (loadsO gn ns).length ≤ 18000 := by omega
    generalize loadsO gn ns = L at *
    have h0a : 0 < accs.length := by rw [la]; exact List.length_pos_iff.mpr h0L
    obtain ⟨o0, hLc⟩ : ∃ o0, L[0]? = some o0 := ⟨_, List.getElem?_eq_getElem (by omega)⟩
    walk_at "r"
    rcases LO.get 0 lo (List.getElem?_eq_getElem h0a) with ⟨hv0, hl0⟩ | ⟨b0, l0, hv0, hl0, hh0⟩
    · have ha0 : accs[0]? = some .non := by rw [← hv0]; exact List.getElem?_eq_getElem h0a
      refine s_ixL (SqL.of h4) (at_of (j := 0) (by decide) ha0) ?_
      walk_at "r"
      refine ⟨rfl, ?_⟩
      rw [show decide (V.non = V.non) = true from rfl]
      walk_at "r"
      have qq := q H4 e04
      rw [show openL L = .non by
        cases L with
        | nil => exact absurd rfl h0L
        | cons x r => rw [show x = none from Option.some.inj hl0]; rfl] at qq
      exact qq
    have ha0 : accs[0]? = some (.ref b0) := by rw [← hv0]; exact List.getElem?_eq_getElem h0a
    refine s_ixL (SqL.of h4) (at_of (j := 0) (by decide) ha0) ?_
    walk_at "r"
    refine ⟨rfl, ?_⟩
    rw [show decide (V.ref b0 = V.non) = false from decide_eq_false (by simp)]
    walk_at "r"
    refine s_ixL (SqL.of h4) (at_of (j := 0) (by decide) ha0) ?_
    walk_at "r"
    have ld0 := hL48 _ (List.mem_of_getElem? hl0) l0 rfl
    have eo : openL L = match cntT l0 with
        | none => .cells
        | some (n, p) => endR L n p := by
      cases L with
      | nil => exact absurd rfl h0L
      | cons x r => rw [show x = some l0 from Option.some.inj hl0]; rfl
    rw [eo] at q
    refine ⟨rfl, b0, l0, rfl, SqL.of (e4 _ _ hh0), by omega, ld0.2, ?_⟩
    cases ec : cntT l0 with
    | none =>
      rw [ec] at q
      exact .inl ⟨rfl, fun H' s => q H' (e04.trans s)⟩
    | some np =>
    obtain ⟨n1, p1'⟩ := np
    rw [ec] at q
    refine .inr ⟨n1, p1', rfl, fun t H5 e5 ht => ?_⟩
    replace q : ∀ H', Same H H' → OpQ mg Q E H H' (endR L n1 p1') := q
    unfold endR at q
    walk_at "r"
    replace h4 := e5 _ _ h4
    refine s_len (SqL.of h4) ?_
    walk_at "r"
    refine ifn (fun c4 => ?_) (fun c4 => ?_)
    rotate_left
    · have c4' : (n1 + p1' + 47) / 48 ≠ L.length := fun w => c4 (by omega)
      rw [if_pos c4'] at q
      walk_at "r"
      exact q H5 (e04.trans e5)
    have c4' : ¬ (n1 + p1' + 47) / 48 ≠ L.length := fun w => w (by omega)
    rw [if_neg c4'] at q
    walk_at "r"
    refine ⟨sz (by simp), fun tc htc => ?_⟩
    have nlf := ne_of_none h4 htc
    have e6 : Same H5 (upd H5 tc (.lst [])) := (Stp.new (S := S0) (Same.refl _) htc).same
    have h6 : upd H5 tc (.lst []) tc = some (.lst []) := upd_same
    generalize upd H5 tc (.lst []) = H6 at e6 h6 ⊢
    replace h4 := e6 _ _ h4
    have tc0 : H tc = none := (e04.trans e5).free htc
    have tcF : Fi tc = none := (e4.trans e5).free htc
    walk_at "r"
    refine ⟨lf, rfl, ⟨_, SqL.of h4⟩, ?_⟩
    refine forL (xs := accs) (fun i σ H' => ∃ v8, σ = [some (.ref a), some (.int gn), some (.ref lf), v3, some (.int n1), some (.int p1'), some (.int ((p1' : Int) + (n1 : Int))), some (.ref tc), v8] ∧ Same Fi H' ∧ Same H H' ∧ H' lf = some (.lst accs) ∧ H' tc = some (.lst ((flatO (L.take i)).map oV)))
      ⟨_, rfl, e4.trans (e5.trans e6), e04.trans (e5.trans e6), h4, by rw [h6]; rfl⟩ (fun i σ H' _ ⟨_, _, _, _, s, _⟩ => SqL.of s) ?_ ?_
    · rintro i x σ H7 hx ⟨v8, rfl, e7, e07, h7, t7⟩
      have hi : i < L.length := by
        have := (List.getElem?_eq_some_iff.mp hx).1
        omega
      have fl := flatO_len (L.take i) (fun o ho l hl => (hL48 o (List.mem_of_mem_take ho) l hl).1)
      rw [List.length_take] at fl
      have fs : ∀ o, L[i]? = some o → flatO (L.take (i + 1)) = flatO (L.take i) ++ flatO [o] := fun o ho => by
        rw [List.getElem?_eq_getElem hi] at ho
        rw [List.take_succ_eq_append_getElem hi, Option.some.inj ho]; simp [flatO]
      rcases LO.get i lo hx with ⟨rfl, hl1⟩ | ⟨b, l, rfl, hl1, hb1⟩
      · walk_at "r"
        refine ⟨.inl ⟨rfl, _, SqL.of t7⟩, ?_⟩
        walk_at "r"
        refine ⟨rfl, ?_⟩
        rw [show decide (V.non = V.non) = true from rfl]
        walk_at "r"
        refine ⟨sz (by simp), fun w hw => ?_⟩
        have s8 := Stp.new (S := S0) (o := .lst [.non]) (Same.refl H7) hw
        walk_at "r"
        refine s_rep upd_same (by decide) (by decide) fun w2 hw2 => ?_
        have s9 := Stp.new (S := S0) (o := .lst (List.replicate (48 : Int).toNat V.non)) s8.fh hw2
        have e79 : Same H7 (upd (upd H7 w (.lst [.non])) w2 (.lst (List.replicate (48 : Int).toNat V.non))) := (s8.trans s9).same
        have h92 : upd (upd H7 w (.lst [.non])) w2 (.lst (List.replicate (48 : Int).toNat V.non)) w2 = some (.lst (List.replicate (48 : Int).toNat V.non)) := upd_same
        clear s8 s9
        generalize upd (upd H7 w (.lst [.non])) w2 (.lst (List.replicate (48 : Int).toNat V.non)) = H9 at e79 h92 ⊢
        refine ⟨tc, w2, _, _, rfl, rfl, e79 _ _ t7, h92, Nat.le_trans (m := 1000000) (by rw [List.length_map, fl, List.length_replicate]; omega) (by decide), ?_⟩
        refine ⟨_, rfl, (Stp.wr (S := S1 tc) (e7.trans e79) rfl tcF).fh, fun b' o' h' => ?_, ?_, ?_⟩
        · rw [upd_ne (ne_of_none h' tc0)]; exact e79 _ _ (e07 _ _ h')
        · rw [upd_ne nlf]; exact e79 _ _ h7
        · rw [upd_same, fs _ hl1, List.map_append]; rfl
      · have ld := hL48 _ (List.mem_of_getElem? hl1) l rfl
        walk_at "r"
        refine ⟨.inl ⟨rfl, _, SqL.of t7⟩, ?_⟩
        walk_at "r"
        refine ⟨rfl, ?_⟩
        rw [show decide (V.ref b = V.non) = false from decide_eq_false (by simp)]
        walk_at "r"
        refine ⟨tc, b, _, _, rfl, rfl, t7, e7 _ _ hb1, Nat.le_trans (m := 1000000) (by rw [List.length_map, List.length_map, fl, ld.1]; omega) (by decide), ?_⟩
        refine ⟨_, rfl, (Stp.wr (S := S1 tc) e7 rfl tcF).fh, fun b' o' h' => ?_, ?_, ?_⟩
        · rw [upd_ne (ne_of_none h' tc0)]; exact e07 _ _ h'
        · rw [upd_ne nlf]; exact h7
        · rw [upd_same, fs _ hl1, List.map_append, ← oV_some]; simp [flatO]
    · rintro σ H7 ⟨v8, rfl, e7, e07, h7, t7⟩
      rw [la, List.take_length] at t7
      have ee : (p1' : Int) + (n1 : Int) = ((p1' + n1 : Nat) : Int) := by omega
      rw [ee]
      walk_at "r"
      refine s_slL (SqL.of t7) fun p8 hp8 => ?_
      rw [cutV_from, ← List.map_drop]
      have e8 : Same H7 (upd H7 p8 (.lst (((flatO L).drop (p1' + n1)).map oV))) := (Stp.new (S := S0) (Same.refl _) hp8).same
      refine s_inO (SqL.of upd_same) ?_
      generalize upd H7 p8 (.lst (((flatO L).drop (p1' + n1)).map oV)) = H8 at e8 ⊢
      walk_at "r"
      refine ifd (fun c5 => ?_) (fun c5 => ?_)
      · rw [if_pos c5] at q
        walk_at "r"
        exact q H8 (e07.trans e8)
      rw [if_neg c5] at q
      walk_at "r"
      refine s_slL (SqL.of (e8 _ _ t7)) fun p9 hp9 => ?_
      rw [cutV_nat, ← List.map_drop, ← List.map_take, Nat.add_sub_cancel_left]
      exact q _ ((e07.trans e8).trans (Stp.new (S := S0) (Same.refl _) hp9).same) p9 ((e07.trans e8).free hp9) upd_same
abbrev s_law_pool : Stmt := topS 33
theorem sc_law_pool : FnScope ["_law_script", "_law_k", "_law_cell", "_law_big", "_law_mixed"] ["_law_script", "_law_k"] (defScope s_law_pool) := ⟨rfl, rfl, rfl, by decide +kernel, rfl, by decide +kernel, by decide +kernel⟩
def Ok_law_pool (P : Program) (w : World) (K : PySem.W.Frag) (mg : Str → Option Value) (base : Heap) : Prop := ∃ fA fd, Fn P w K mg base (L2.CX P w) 1 "_law_pool" s_law_pool fA fd ["_law_script", "_law_k"] (sp_law_pool K mg)
theorem okx_law_pool (Z : Zs K mg) {fA : Addr} {fd : FuncData} (F : Fun K "_law_pool" "_law_pool" s_law_pool fA fd) (m : mg "_law_pool" = some (.ref fA))  : Fn P w K mg base (L2.CX P w) 1 "_law_pool" s_law_pool fA fd ["_law_script", "_law_k"] (sp_law_pool K mg) := by
  refine ⟨F.okX sc_law_pool (fun vs H Q E h => h.1) (fun cdv A outer s H vs Q E hr h => ?_), m, F.kp, F.binds fun _ _ _ _ _ _ us hl => match us, hl with | [_, _], _ => rfl, F⟩
  have hu64 := hr.units
  obtain ⟨hlen, h⟩ := h
  refine ⟨_, (pss_cons (ps_set (i := 2) sc_law_pool.nd rfl (Or.inl rfl) (pe_ifExp (pt_cmpR op_lt (pv 1) (pe_callB (c_len K rfl) (by rfl) Z.z_len (by decide +kernel) (pa_cons (pv 0) pa_nil)) (nomark _)) (pe_callTy c_int1 (by rfl) Z.z_int (by decide +kernel) (pa_cons (pe_ix (i_list K rfl) (pv 0) (pv 1) (fun _ _ => rfl)) pa_nil)) pe_int))
    (pss_cons (ps_set (i := 3) sc_law_pool.nd rfl (Or.inl rfl) (pe_callB (c_max2 rfl) (by rfl) Z.z_max (by decide +kernel) (pa_cons (pv 2) (pa_cons (pe_callTy c_int1 (by rfl) Z.z_int (by decide +kernel) (pa_cons (pe_op op_sub (pe_un un_neg pe_int) (pv 2)) pa_nil)) pa_nil))))
    (pss_cons (ps_set (i := 4) sc_law_pool.nd rfl (Or.inl rfl) (pe_op op_mod (pe_callTy c_int1 (by rfl) Z.z_int (by decide +kernel) (pa_cons (pe_op op_mul (pe_op op_add (pe_op op_add (pe_op op_add (pe_op op_mod (pe_callTy c_int1 (by rfl) Z.z_int (by decide +kernel) (pa_cons (pv 3) pa_nil)) pe_int) (pe_op op_mul (pe_op op_mul pe_int (pv 1)) (pv 1))) (pe_op op_mul pe_int (pv 1))) pe_int) pe_int) pa_nil)) pe_int))
    (pss_one (ps_ret (pe_lst (pa_cons (pe_op op_mul (pv 3) (pe_callTy c_int1 (by rfl) Z.z_int (by decide +kernel) (pa_cons (pe_cmpR op_ge (pv 3) (pe_op op_pow pe_int pe_int) (nomark _)) pa_nil))) (pa_cons (pv 4) pa_nil)))))))), ?_⟩
  obtain ⟨s, ns, k, rfl, hS, hk0, hk, q⟩ := h
  have fin : ∀ (x y : Int), 0 ≤ y → y < 2147483647 → (∀ p, H p = none → Q (.ref p) (upd H p (.lst [.int x, .int y]))) := fun x y y0 y1 p hp =>
    q p _ ⟨(Stp.new (S := S0) (Same.refl H) hp).same, hp, x, y, upd_same, y0, y1⟩
  walk_at "r"
  refine ifd (fun h => ?_) (fun h => ?_)
  · walk_at "r"
    have hl : k.toNat < ns.length := by simp at h; omega
    refine s_ixL hS (at_of (j := k.toNat) (by omega) (get_int hl)) ?_
    walk_at "r"
    exact ⟨sz (by simp), fin _ _ (Int.emod_nonneg _ (by decide)) (Int.emod_lt_of_pos _ (by decide))⟩
  · walk_at "r"
    exact ⟨sz (by simp), fin _ _ (Int.emod_nonneg _ (by decide)) (Int.emod_lt_of_pos _ (by decide))⟩
abbrev s_law_take : Stmt := topS 34
theorem sc_law_take : FnScope ["_law_source", "_law_top", "_law_drawn"] ["_law_source", "_law_top"] (defScope s_law_take) := ⟨rfl, rfl, rfl, by decide +kernel, rfl, by decide +kernel, by decide +kernel⟩
def Ok_law_take (P : Program) (w : World) (K : PySem.W.Frag) (mg : Str → Option Value) (base : Heap) : Prop := ∃ fA fd, Fn P w K mg base (L2.CX P w) 1 "_law_take" s_law_take fA fd ["_law_source", "_law_top"] (sp_law_take K mg)
theorem okx_law_take (Z : Zs K mg) {fA : Addr} {fd : FuncData} (F : Fun K "_law_take" "_law_take" s_law_take fA fd) (m : mg "_law_take" = some (.ref fA))  : Fn P w K mg base (L2.CX P w) 1 "_law_take" s_law_take fA fd ["_law_source", "_law_top"] (sp_law_take K mg) := by
  refine ⟨F.okX sc_law_take (fun vs H Q E h => h.1) (fun cdv A outer s H vs Q E hr h => ?_), m, F.kp, F.binds fun _ _ _ _ _ _ us hl => match us, hl with | [_, _], _ => rfl, F⟩
  have hu64 := hr.units
  obtain ⟨hlen, h⟩ := h
  refine ⟨_, (pss_cons (ps_if (pt_cmpR op_gt (pe_ix (i_list K rfl) (pv 0) pe_int (fun _ _ => rfl)) pe_int (nomark _))
      (pss_cons (ps_set (i := 2) sc_law_take.nd rfl (Or.inl rfl) (pe_op op_mod (pe_callTy c_int1 (by rfl) Z.z_int (by decide +kernel) (pa_cons (pe_ix (i_list K rfl) (pv 0) pe_int (fun _ _ => rfl)) pa_nil)) (pv 1)))
    (pss_cons (ps_asg (pe_op op_fdiv (pe_ix (i_list K rfl) (pv 0) pe_int (fun _ _ => rfl)) (pv 1)) (pg_sub (pv 0) pe_int set_list))
    (pss_one (ps_ret (pv 2)))))
      pss_nil)
    (pss_cons (ps_asg (pe_op op_mod (pe_callTy c_int1 (by rfl) Z.z_int (by decide +kernel) (pa_cons (pe_op op_add (pe_op op_mul (pe_ix (i_list K rfl) (pv 0) pe_int (fun _ _ => rfl)) pe_int) pe_int) pa_nil)) pe_int) (pg_sub (pv 0) pe_int set_list))
    (pss_one (ps_ret (pe_op op_mod (pe_callTy c_int1 (by rfl) Z.z_int (by decide +kernel) (pa_cons (pe_op op_fdiv (pe_op op_mod (pe_callTy c_int1 (by rfl) Z.z_int (by decide +kernel) (pa_cons (pe_op op_mul (pe_ix (i_list K rfl) (pv 0) pe_int (fun _ _ => rfl)) (pe_ix (i_list K rfl) (pv 0) pe_int (fun _ _ => rfl))) pa_nil)) pe_int) pe_int) pa_nil)) (pv 1)))))), ?_⟩
  obtain ⟨F0, p, t, rfl, hs, ht, ht2, q⟩ := h
  obtain ⟨hs0, hp0, a, b, hp, hb0, hb1⟩ := id hs
  have st : ∀ o, Stp (S1 p) F0 H F0 (upd H p o) := fun o => Stp.wr hs0 rfl hp0
  walk_at "r"
  refine ifd (fun h => ?_) (fun h => ?_)
  · walk_at "r"
    exact q _ _ (hs.wr hb0 hb1) (st _) (Int.emod_nonneg _ (by omega)) (Int.emod_lt_of_pos _ ht)
  · walk_at "r"
    exact q _ _ (hs.wr (Int.emod_nonneg _ (by decide)) (Int.emod_lt_of_pos _ (by decide))) (st _) (Int.emod_nonneg _ (by omega)) (Int.emod_lt_of_pos _ ht)
abbrev s_law_one : Stmt := topS 35
theorem sc_law_one : FnScope ["_law_source", "_law_things"] ["_law_source", "_law_things"] (defScope s_law_one) := ⟨rfl, rfl, rfl, by decide +kernel, rfl, by decide +kernel, by decide +kernel⟩
def Ok_law_one (P : Program) (w : World) (K : PySem.W.Frag) (mg : Str → Option Value) (base : Heap) : Prop := ∃ fA fd, Fn P w K mg base (L2.CX P w) 2 "_law_one" s_law_one fA fd ["_law_source", "_law_things"] (sp_law_one K mg)
theorem okx_law_one (Z : Zs K mg) {fA : Addr} {fd : FuncData} (F : Fun K "_law_one" "_law_one" s_law_one fA fd) (m : mg "_law_one" = some (.ref fA)) (C_law_take : Ok_law_take P w K mg base) : Fn P w K mg base (L2.CX P w) 2 "_law_one" s_law_one fA fd ["_law_source", "_law_things"] (sp_law_one K mg) := by
  obtain ⟨_, _, C_law_take⟩ := C_law_take
  refine ⟨F.okX sc_law_one (fun vs H Q E h => h.1) (fun cdv A outer s H vs Q E hr h => ?_), m, F.kp, F.binds fun _ _ _ _ _ _ us hl => match us, hl with | [_, _], _ => rfl, F⟩
  have hu64 := hr.units
  obtain ⟨hlen, h⟩ := h
  refine ⟨_, (pss_one (ps_ret (pe_ix (i_list K rfl) (pv 1) (pe_call C_law_take.G (hr.mono (by decide)) rfl C_law_take.m C_law_take.kp C_law_take.b .nil passL (pa_cons (pv 0) (pa_cons (pe_callB (c_len K rfl) (by rfl) Z.z_len (by decide +kernel) (pa_cons (pv 1) pa_nil)) pa_nil))) (fun _ _ => rfl)))), ?_⟩
  obtain ⟨F0, p, a, ns, rfl, hs, hn, hn0, hn1, q⟩ := h
  have ha := hs.1.seq hn
  walk_at "r"
  refine ⟨rfl, F0, p, _, rfl, hs, ?_, ?_, fun r H1 s1 st1 r0 r1 => ?_⟩
  · simp; omega
  · simp; omega
  walk_at "r"
  have hl : r.toNat < ns.length := by simp at r1; omega
  exact s_ixL (s1.1.seq hn) (at_of (j := r.toNat) (by omega) (get_int hl)) (q _ _ s1 st1 (List.getElem_mem hl))
abbrev s_law_count : Stmt := topS 36
theorem sc_law_count : FnScope ["_law_number", "_law_figures", "_law_rest"] ["_law_number"] (defScope s_law_count) := ⟨rfl, rfl, rfl, by decide +kernel, rfl, by decide +kernel, by decide +kernel⟩
def Ok_law_count (P : Program) (w : World) (K : PySem.W.Frag) (mg : Str → Option Value) (base : Heap) : Prop := ∃ fA fd, Fn P w K mg base (L2.CX P w) 1 "_law_count" s_law_count fA fd ["_law_number"] (sp_law_count K mg)
theorem okx_law_count (Z : Zs K mg) {fA : Addr} {fd : FuncData} (F : Fun K "_law_count" "_law_count" s_law_count fA fd) (m : mg "_law_count" = some (.ref fA))  : Fn P w K mg base (L2.CX P w) 1 "_law_count" s_law_count fA fd ["_law_number"] (sp_law_count K mg) := by
  refine ⟨F.okX sc_law_count (fun vs H Q E h => h.1) (fun cdv A outer s H vs Q E hr h => ?_), m, F.kp, F.binds fun _ _ _ _ _ _ us hl => match us, hl with | [_], _ => rfl, F⟩
  have hu64 := hr.units
  obtain ⟨hlen, h⟩ := h
  refine ⟨_, (pss_cons (ps_par (i := 1) (j := 2) (by rfl) sc_law_count.nd rfl rfl (by decide) rfl rfl (pa_cons (pe_lst pa_nil) (pa_cons (pe_op op_add (pv 0) pe_int) pa_nil)) (by rfl))
    (pss_cons (ps_while (passes_of rfl) (pt_cmpR op_gt (pv 2) pe_int (nomark _))
      (pss_cons (ps_set (i := 1) sc_law_count.nd rfl (Or.inl rfl) (pe_op op_cat (pe_lst (pa_cons (pe_op op_mod (pv 2) pe_int) pa_nil)) (pv 1)))
    (pss_one (ps_set (i := 2) sc_law_count.nd rfl (Or.inl rfl) (pe_op op_fdiv (pv 2) pe_int)))))
    (pss_one (ps_ret (pe_op op_cat (pe_op op_rep (pe_lst (pa_cons pe_int pa_nil)) (pe_op op_sub (pe_callB (c_len K rfl) (by rfl) Z.z_len (by decide +kernel) (pa_cons (pv 1) pa_nil)) pe_int)) (pv 1)))))), ?_⟩
  obtain ⟨n, rfl, hn, q⟩ := h
  have b3 : blen (n + 1) ≤ 41 := blen_le (by omega)
  have b1 := blen_pos (n := n + 1) (by omega)
  walk_at "r"
  refine ⟨sz (by simp), fun a0 ha0 => ?_⟩
  walk_at "r"
  refine whileM (mon_test (mon_op mon_I0 mon_var mon_c))
    (fun σ H' => ∃ (j : Nat) (a : Addr), σ = [some (.int n), some (.ref a), some (.int (((n + 1) / 2 ^ j : Nat) : Int))] ∧ Same H H' ∧ H a = none ∧ H' a = some (.lst ((fixL j (n + 1)).map V.int)) ∧ j ≤ blen (n + 1)) (fun σ _ => match σ with
      | [_, _, some (.int p)] => p.toNat
      | _ => 0) ⟨0, a0, by simp; rfl, (Stp.new (S := S0) (Same.refl H) ha0).same, ha0, upd_same, Nat.zero_le _⟩ ?_
  rintro σ H1 ⟨j, a, rfl, e1, a0', ha, hj⟩
  walk_at "r"
  refine ifd (fun h => ?_) (fun h => ?_)
  · have h' : 0 < (n + 1) / 2 ^ j := Int.ofNat_lt.mp h
    have hlt : j < blen (n + 1) := by
      rw [lt_blen]
      exact (Nat.div_pos_iff.mp h').2
    walk_at "r"
    refine ⟨sz (by simp), fun b hb0 => ?_⟩
    have s2 := Stp.new (S := S0) (o := .lst [.int ((((n + 1) / 2 ^ j : Nat) : Int) % 2)]) (Same.refl H1) hb0
    walk_at "r"
    refine ⟨_, _, _, _, rfl, rfl, upd_same, s2.same _ _ ha, sz (by simp [fixL_len]; omega), fun c hc => ?_⟩
    have s3 := Stp.new (S := S0) (o := .lst ([.int ((((n + 1) / 2 ^ j : Nat) : Int) % 2)] ++ (fixL j (n + 1)).map V.int)) s2.fh hc
    walk_at "r"
    refine ⟨⟨j + 1, c, ?_, e1.trans (s2.trans s3).same, (e1.trans s2.same).free hc, ?_, by omega⟩, ?_⟩
    · rw [show (((n + 1) / 2 ^ (j + 1) : Nat) : Int) = (((n + 1) / 2 ^ j : Nat) : Int) / 2 by rw [Nat.pow_succ, ← Nat.div_div_eq_div_mul]; simp]
      rfl
    · rw [upd_same, fixL_cons]; simp
    · show ((((n + 1) / 2 ^ j : Nat) : Int) / 2).toNat < (((n + 1) / 2 ^ j : Nat) : Int).toNat
      generalize (n + 1) / 2 ^ j = y at h'
      omega
  · have h' : (n + 1) / 2 ^ j = 0 := Nat.eq_zero_of_not_pos fun z => h (Int.ofNat_lt.mpr z)
    have e : j = blen (n + 1) := by
      refine Nat.le_antisymm hj (Nat.le_of_not_lt fun z => ?_)
      rw [lt_blen] at z
      have := Nat.div_pos z (Nat.two_pow_pos j)
      omega
    subst e
    walk_at "r"
    refine ⟨sz (by simp), fun b hb => ?_⟩
    have s2 := Stp.new (S := S0) (o := .lst [.int 0]) (Same.refl H1) hb
    walk_at "r"
    refine s_len (SqL.of (s2.same _ _ ha)) ?_
    walk_at "r"
    rw [List.length_map, fixL_len]
    refine s_rep upd_same (by omega) (by omega) fun b2 hb2 => ?_
    have s3 := Stp.new (S := S0) (o := .lst (List.replicate ((blen (n + 1) : Int) - 1).toNat (V.int 0))) s2.fh hb2
    walk_at "r"
    refine ⟨_, _, _, _, rfl, rfl, upd_same, (s2.trans s3).same _ _ ha, sz (by simp [fixL_len]; omega), fun c hc => ?_⟩
    refine q c _ ((e1.trans (s2.trans s3).same).trans (Stp.new (S := S0) (Same.refl _) hc).same) ((e1.trans (s2.trans s3).same).free hc) ?_
    rw [upd_same]
    unfold countL
    rw [List.map_append, List.map_replicate, show ((blen (n + 1) : Int) - 1).toNat = blen (n + 1) - 1 by omega]
abbrev s_law_check : Stmt := topS 37
theorem sc_law_check : FnScope ["_law_load", "_law_number", "_law_bit", "_law_place"] ["_law_load"] (defScope s_law_check) := ⟨rfl, rfl, rfl, by decide +kernel, rfl, by decide +kernel, by decide +kernel⟩
def Ok_law_check (P : Program) (w : World) (K : PySem.W.Frag) (mg : Str → Option Value) (base : Heap) : Prop := ∃ fA fd, Fn P w K mg base (L2.CX P w) 1 "_law_check" s_law_check fA fd ["_law_load"] (sp_law_check K mg)
theorem okx_law_check (Z : Zs K mg) {fA : Addr} {fd : FuncData} (F : Fun K "_law_check" "_law_check" s_law_check fA fd) (m : mg "_law_check" = some (.ref fA))  : Fn P w K mg base (L2.CX P w) 1 "_law_check" s_law_check fA fd ["_law_load"] (sp_law_check K mg) := by
  refine ⟨F.okX sc_law_check (fun vs H Q E h => h.1) (fun cdv A outer s H vs Q E hr h => ?_), m, F.kp, F.binds fun _ _ _ _ _ _ us hl => match us, hl with | [_], _ => rfl, F⟩
  have hu64 := hr.units
  obtain ⟨hlen, h⟩ := h
  refine ⟨_, (pss_cons (ps_set (i := 1) sc_law_check.nd rfl (Or.inr rfl) pe_int)
    (pss_cons (ps_for (passes_of rfl) rfl (pi_list (pv 0)) (pg_name (i := 2) sc_law_check.nd rfl (Or.inl rfl))
      (pss_one (ps_set (i := 1) sc_law_check.nd rfl (Or.inr rfl) (pe_op op_add (pe_op op_mul pe_int (pv 1)) (pv 2)))))
    (pss_cons (ps_set (i := 1) sc_law_check.nd rfl (Or.inr rfl) (pe_op op_mul pe_int (pv 1)))
    (pss_cons (ps_for (passes_of rfl) rfl (pi_range3 rfl Z.z_range (pa_cons (pe_op op_add (pe_callB (c_len K rfl) (by rfl) Z.z_len (by decide +kernel) (pa_cons (pv 0) pa_nil)) pe_int) (pa_cons pe_int (pa_cons (pe_un un_neg pe_int) pa_nil)))) (pg_name (i := 3) sc_law_check.nd rfl (Or.inl rfl))
      (pss_one (ps_if (pt_cmpR op_eq (pe_op o_and1 (pe_op op_shr (pv 1) (pv 3)) pe_int) pe_int (nomark _))
      (pss_one (ps_set (i := 1) sc_law_check.nd rfl (Or.inr rfl) (pe_op op_xor (pv 1) (pe_op op_shl pe_int (pe_op op_sub (pv 3) pe_int)))))
      pss_nil)))
    (pss_one (ps_ret (pe_lc (own := [("_law_place", 3)]) (g := gName 3) (tt := tYes) (by rfl) sc_law_check.nd (pi_range3 rfl Z.z_range (pa_cons pe_int (pa_cons (pe_un un_neg pe_int) (pa_cons (pe_un un_neg pe_int) pa_nil)))) (blkOk_by (own := [("_law_place", 3)]) (N := ["_law_load", "_law_number", "_law_bit", "_law_place"]) (sc := defScope s_law_check) (by decide +kernel)) (fun _ _ _ _ _ => (pg_name (i := 3) sc_law_check.nd rfl (Or.inl rfl))) (fun _ _ _ _ _ => pts_nil) (fun _ _ _ _ _ => (pe_op o_and1 (pe_op op_shr (pv 1) (pv 3)) pe_int))))))))), ?_⟩
  obtain ⟨a, l, rfl, hS, hl, hb, q⟩ := h
  walk_at "r"
  refine ⟨a, rfl, ⟨_, hS⟩, ?_⟩
  refine forL (xs := l.map V.int) (fun i σ H' => ∃ v, σ = [some (.ref a), some (.int (numL (l.take i))), v, none] ∧ H = H') ⟨_, rfl, rfl⟩ (fun i σ H' _ ⟨_, _, e⟩ => e ▸ hS) ?_ ?_
  · rintro i x σ H' hx ⟨v, rfl, rfl⟩
    rw [List.getElem?_map] at hx
    cases z : l[i]? with
    | none => rw [z] at hx; cases hx
    | some b =>
      rw [z] at hx
      cases hx
      have hi : i < l.length := (List.getElem?_eq_some_iff.mp z).1
      have et : l.take (i + 1) = l.take i ++ [b] := by
        rw [List.take_succ_eq_append_getElem hi]
        rw [List.getElem?_eq_getElem hi] at z
        rw [Option.some.inj z]
      have hv : 2 * numL (l.take i) + b = numL (l.take (i + 1)) := by rw [et, numL_snoc]
      walk_at "r"
      rw [hv]
      exact ⟨_, rfl, rfl⟩
  · rintro σ H' ⟨v, rfl, rfl⟩
    rw [List.length_map, List.take_length]
    walk_at "r"
    have e0 : 256 * numL l = ((DN (chk (l.take 0)) (l.drop 0) : Nat) : Int) := by
      rw [List.take_zero, List.drop_zero, numN_eq l hb]
      show _ = ((0 * 2 ^ l.length ^^^ 256 * numN l : Nat) : Int)
      rw [Nat.zero_mul, Nat.zero_xor]; simp
    rw [e0]
    refine ⟨_, _, _, 48, rfl, ?_, ?_⟩
    · have := RgC.neg (i := ((l.map V.int).length : Int) + 7) (j := 7) (by rw [List.length_map, hl]; decide) (by rw [List.length_map, hl]; decide) (by decide) (by decide)
      rw [show ((((l.map V.int).length : Nat) : Int) + 7 - 7).toNat = 48 by rw [List.length_map, hl]; decide] at this
      exact this
    refine forW walk_rangeC (fun i σ H' => ∃ v3, σ = [some (.ref a), some (.int ((DN (chk (l.take i)) (l.drop i) : Nat) : Int)), v, v3] ∧ H = H') ⟨_, rfl, rfl⟩ (fun _ _ _ _ _ => trivial) ?_ ?_
    · rintro i x σ H1 H2 hi ⟨v3, rfl, rfl⟩ ⟨rfl, rfl⟩
      have hil : i < l.length := by omega
      have ed : l.drop i = l[i] :: l.drop (i + 1) := List.drop_eq_getElem_cons hil
      have et : chk (l.take (i + 1)) = stp (chk (l.take i)) (l[i]).toNat := by rw [List.take_succ_eq_append_getElem hil]; exact cf_snoc _ _ _
      have hbi := hb l[i] (List.getElem_mem hil)
      have hbr : isBits (l.drop (i + 1)) := fun x hx => hb x (List.mem_of_mem_drop hx)
      have hln : (l.drop (i + 1)).length + 8 = 55 - i := by rw [List.length_drop]; omega
      have kb := DN_bit (chk_lt (l.take i)) hbi hbr
      have ks := DN_step (chk_lt (l.take i)) hbi hbr
      have ex : (((l.map V.int).length : Nat) : Int) + 7 + (i : Int) * -1 = ((55 - i : Nat) : Int) := by rw [List.length_map, hl]; omega
      rw [hln] at kb
      rw [← ed] at kb ks
      rw [← et] at ks
      dsimp only
      rw [ex]
      walk_at "r"
      refine ⟨rfl, ?_⟩
      walk_at "r"
      have ev : ((DN (chk (l.take i)) (l.drop i) : Nat) : Int) / 2 ^ (((55 - i : Nat) : Int)).toNat % 2 = ((DN (chk (l.take i)) (l.drop i) / 2 ^ (55 - i) % 2 : Nat) : Int) := by rw [Int.toNat_natCast]; simp
      rw [ev]
      refine ifd (fun h => ?_) (fun h => ?_)
      · have h' := kb.mp (by omega)
        walk_at "r"
        have e8 : ((55 - i : Nat) : Int) - 8 = ((47 - i : Nat) : Int) := by omega
        rw [e8]
        have exx : Builtin.bitXor ((DN (chk (l.take i)) (l.drop i) : Nat) : Int) (263 * 2 ^ (((47 - i : Nat) : Int)).toNat) = ((DN (chk (l.take (i + 1))) (l.drop (i + 1)) : Nat) : Int) := by
          rw [Bits.bitXor_pp (by omega) (Int.mul_nonneg (by decide) (Int.pow_nonneg (by decide))), Int.toNat_natCast, Int.toNat_natCast]
          congr 1
          rw [ks, if_pos h', List.length_drop, hl, show 48 - (i + 1) = 47 - i by omega]
          have : ((263 : Int) * 2 ^ (47 - i)).toNat = 263 * 2 ^ (47 - i) := by
            rw [show ((263 : Int) * 2 ^ (47 - i)) = ((263 * 2 ^ (47 - i) : Nat) : Int) by simp, Int.toNat_natCast]
          rw [this, Nat.xor_assoc, Nat.xor_self, Nat.xor_zero]
        rw [exx]
        exact ⟨_, rfl, rfl⟩
      · have h' := fun z => h (by have := kb.mpr z; omega)
        walk_at "r"
        rw [if_neg h', Nat.zero_mul, Nat.xor_zero] at ks
        rw [ks]
        exact ⟨_, rfl, rfl⟩
    · rintro σ H1 ⟨v3, rfl, rfl⟩
      rw [List.take_of_length_le (by omega), List.drop_of_length_le (by omega)]
      have ec : DN (chk l) [] = chk l := by simp [DN, numN]
      rw [ec]
      walk_at "r"
      refine ⟨_, _, _, 8, rfl, RgC.neg (i := 7) (j := -1) (by decide) (by decide) (by decide) (by decide), ?_⟩
      refine lcW walk_rangeC S0 (Same.refl H) (fun _ z => z.elim) (fun _ _ _ => trivial) (fun i acc F1 H1 => acc = ((fixL 8 (chk l)).map V.int).take i) (fun _ _ _ _ _ _ _ _ _ r => r) rfl ?_ ?_
      · rintro i x acc d F1 H1 H2 hi ⟨rfl, rfl⟩ hd nS st f0 e hl2 rr
        have ex : (7 : Int) + (i : Int) * -1 = ((7 - i : Nat) : Int) := by omega
        dsimp only
        rw [ex]
        walk_at "r"
        refine ⟨rfl, ?_⟩
        refine lc_end hd nS st f0 e hl2 (by omega) (.rfl' st.fh) ?_
        have ha := fixL_at 8 (chk l) i hi
        have h3 : i < ((fixL 8 (chk l)).map V.int).length := by rw [List.length_map, fixL_len]; exact hi
        rw [rr, List.take_succ_eq_append_getElem h3]
        congr 2
        have h4 : i < (fixL 8 (chk l)).length := by rw [fixL_len]; exact hi
        rw [List.getElem?_eq_getElem h4] at ha
        rw [List.getElem_map, Option.some.inj ha, Int.toNat_natCast]
        simp
      · intro d acc F0 F1 H1 st hd f0 ef st1 hl2 rr
        refine q d H1 st.same hd ?_
        rw [ef] at st1
        rw [st1.fh _ _ upd_same, rr, List.take_of_length_le (by rw [List.length_map, fixL_len]; exact Nat.le_refl _)]
abbrev s_law_sum : Stmt := topS 38
theorem sc_law_sum : FnScope ["_law_loads_here", "_law_at", "_law_load"] ["_law_loads_here"] (defScope s_law_sum) := ⟨rfl, rfl, rfl, by decide +kernel, rfl, by decide +kernel, by decide +kernel⟩
def Ok_law_sum (P : Program) (w : World) (K : PySem.W.Frag) (mg : Str → Option Value) (base : Heap) : Prop := ∃ fA fd, Fn P w K mg base (L2.CX P w) 1 "_law_sum" s_law_sum fA fd ["_law_loads_here"] (sp_law_sum K mg)
theorem okx_law_sum (Z : Zs K mg) {fA : Addr} {fd : FuncData} (F : Fun K "_law_sum" "_law_sum" s_law_sum fA fd) (m : mg "_law_sum" = some (.ref fA))  : Fn P w K mg base (L2.CX P w) 1 "_law_sum" s_law_sum fA fd ["_law_loads_here"] (sp_law_sum K mg) := by
  refine ⟨F.okX sc_law_sum (fun vs H Q E h => h.1) (fun cdv A outer s H vs Q E hr h => ?_), m, F.kp, F.binds fun _ _ _ _ _ _ us hl => match us, hl with | [_], _ => rfl, F⟩
  have hu64 := hr.units
  obtain ⟨hlen, h⟩ := h
  refine ⟨_, (pss_one (ps_ret (pe_lc (own := [("_law_at", 1)]) (g := gName 1) (tt := tYes) (by rfl) sc_law_sum.nd (pi_range1 rfl Z.z_range (pa_cons pe_int pa_nil)) (blkOk_by (own := [("_law_at", 1)]) (N := ["_law_loads_here", "_law_at", "_law_load"]) (sc := defScope s_law_sum) (by decide +kernel)) (fun _ _ _ _ _ => (pg_name (i := 1) sc_law_sum.nd rfl (Or.inr rfl))) (fun _ _ _ _ _ => pts_nil) (fun _ _ _ _ _ => (pe_op op_mod (pe_callB (c_sum K rfl rfl) (by rfl) Z.z_sum (by decide +kernel) (pa_cons (pe_lc (wi := iList K _) (own := [("_law_load", 2)]) (g := gName 2) (tt := tYes) (by rfl) sc_law_sum.nd (pi_list (pv 0)) (blkOk_by (own := [("_law_load", 2)]) (N := ["_law_loads_here", "_law_at", "_law_load"]) (sc := _) (by rfl)) (fun _ _ _ _ _ => (pg_name (i := 2) sc_law_sum.nd rfl (Or.inl rfl))) (fun _ _ _ _ _ => pts_nil) (fun _ _ _ _ _ => (pe_ix (i_list K rfl) (pv 2) (pv 1) (fun _ _ => rfl)))) pa_nil)) pe_int))))), ?_⟩
  obtain ⟨a, us, ls, rfl, hS, hR, hn, hL, q⟩ := h
  have hul := RL.len hR
  walk_at "r"
  refine ⟨_, rfl, by decide, by decide, ?_⟩
  refine lcW walk_range S0 (Same.refl H) (fun _ z => z.elim) (fun _ _ _ => trivial) (fun i acc F1 H1 => acc = ((sumC ls).map V.int).take i) (fun _ _ _ _ _ _ _ _ _ r => r) rfl ?_ ?_
  · rintro j x acc d F1 H1 H2 hj ⟨rfl, rfl⟩ hd nS st f0 e hl rr
    have hj : j < 48 := hj
    walk_at "r"
    refine ⟨a, rfl, ⟨_, st.same.seq hS⟩, ?_⟩
    refine lcW (walk_list (xs := us)) S0 st.fh (fun _ z => z.elim) (fun F2 H2 s2 => (st.same.trans s2.same).seq hS) (fun i acc F2 H2 => acc = ((ls.map fun l => l.getD j 0).map V.int).take i) (fun _ _ _ _ _ _ _ _ _ r => r) rfl ?_ ?_
    · rintro i x acc2 d2 F2 H2 H3 hi ⟨rfl, hx⟩ hd2 nS2 st2 f02 e2 hl2 rr2
      obtain ⟨b, l, rfl, hl1, hb1⟩ := RL.get hR i hx
      have hil : i < ls.length := (List.getElem?_eq_some_iff.mp hl1).1
      have l48 := (hL l (List.mem_of_getElem? hl1)).1
      have hjl : j < l.length := by omega
      walk_at "r"
      refine s_ixL (SqL.of ((st.same.trans st2.same) _ _ hb1)) (at_of (j := j) (by omega) (get_int hjl)) ?_
      refine lc_end hd2 nS2 st2 f02 e2 hl2 (by omega) (.rfl' st2.fh) ?_
      have h3 : i < ((ls.map fun l => l.getD j 0).map V.int).length := by simp; exact hil
      rw [rr2, List.take_succ_eq_append_getElem h3]
      rw [List.getElem?_eq_getElem hil] at hl1
      congr 2
      rw [List.getElem_map, List.getElem_map, Option.some.inj hl1, List.getD_eq_getElem?_getD, List.getElem?_eq_getElem hjl]
      rfl
    · intro d2 acc2 F2 F3 H3 st2 hd2 f02 ef2 st3 hl2 rr2
      rw [List.take_of_length_le (by simp [hul])] at rr2
      have hd3 : H3 d2 = some (.lst ((ls.map fun l => l.getD j 0).map V.int)) := by rw [← rr2]; rw [ef2] at st3; exact st3.fh _ _ upd_same
      walk_at "r"
      refine ⟨d2, _, rfl, SqL.of hd3, ?_⟩
      walk_at "r"
      refine lc_end hd nS st f0 e hl (by omega) st3 ?_
      have h4 : j < ((sumC ls).map V.int).length := by rw [List.length_map, sumC_len]; exact hj
      rw [rr, List.take_succ_eq_append_getElem h4]
      congr 2
      simp [sumC]
  · intro d acc F0 F1 H1 st hd f0 ef st1 hl rr
    refine q d H1 st.same hd ?_
    rw [ef] at st1
    rw [st1.fh _ _ upd_same, rr, List.take_of_length_le (by rw [List.length_map, sumC_len]; exact Nat.le_refl _)]
abbrev s_law_cells : Stmt := topS 39
theorem sc_law_cells : FnScope ["_law_loads_here", "_law_group", "_law_found", "_law_begin", "_law_some", "_law_load"] ["_law_loads_here", "_law_group"] (defScope s_law_cells) := ⟨rfl, rfl, rfl, by decide +kernel, rfl, by decide +kernel, by decide +kernel⟩
def Ok_law_cells (P : Program) (w : World) (K : PySem.W.Frag) (mg : Str → Option Value) (base : Heap) : Prop := ∃ fA fd, Fn P w K mg base (L2.CX P w) 2 "_law_cells" s_law_cells fA fd ["_law_loads_here", "_law_group"] (sp_law_cells K mg)
theorem okx_law_cells (Z : Zs K mg) {fA : Addr} {fd : FuncData} (F : Fun K "_law_cells" "_law_cells" s_law_cells fA fd) (m : mg "_law_cells" = some (.ref fA)) (C_law_sum : Ok_law_sum P w K mg base) (C_law_check : Ok_law_check P w K mg base) : Fn P w K mg base (L2.CX P w) 2 "_law_cells" s_law_cells fA fd ["_law_loads_here", "_law_group"] (sp_law_cells K mg) := by
  obtain ⟨_, _, C_law_sum⟩ := C_law_sum
  obtain ⟨_, _, C_law_check⟩ := C_law_check
  refine ⟨F.okX sc_law_cells (fun vs H Q E h => h.1) (fun cdv A outer s H vs Q E hr h => ?_), m, F.kp, F.binds fun _ _ _ _ _ _ us hl => match us, hl with | [_, _], _ => rfl, F⟩
  have hu64 := hr.units
  obtain ⟨hlen, h⟩ := h
  refine ⟨_, (pss_cons (ps_set (i := 2) sc_law_cells.nd rfl (Or.inl rfl) (pe_lst pa_nil))
    (pss_cons (ps_for (passes_of rfl) rfl (pi_range3 rfl Z.z_range (pa_cons pe_int (pa_cons (pe_callB (c_len K rfl) (by rfl) Z.z_len (by decide +kernel) (pa_cons (pv 0) pa_nil)) (pa_cons (pv 1) pa_nil)))) (pg_name (i := 3) sc_law_cells.nd rfl (Or.inl rfl))
      (pss_cons (ps_set (i := 4) sc_law_cells.nd rfl (Or.inl rfl) (pe_slice (l_list K rfl) (pv 0) (po_some (pv 3)) (po_some (pe_op op_add (pv 3) (pv 1)))))
    (pss_one (ps_for (passes_of rfl) rfl (pi_list (pe_op op_cat (pv 4) (pe_lst (pa_cons (pe_call C_law_sum.G (hr.mono (by decide)) rfl C_law_sum.m C_law_sum.kp C_law_sum.b .nil passL (pa_cons (pv 4) pa_nil)) pa_nil)))) (pg_name (i := 5) sc_law_cells.nd rfl (Or.inl rfl))
      (pss_one (ps_expr (pe_bm PySem.F.plainAttrs_list PySem.F.slot_list_append PySem.F.type_list_append mt_append (pv 2) (pa_cons (pe_op op_cat (pv 5) (pe_call C_law_check.G (hr.mono (by decide)) rfl C_law_check.m C_law_check.kp C_law_check.b .nil passL (pa_cons (pv 5) pa_nil))) pa_nil))))))))
    (pss_one (ps_ret (pv 2))))), ?_⟩
  obtain ⟨F, a, us, ls, g, rfl, hF, ha, hR, hn, hL, g1, g8, q⟩ := h
  have g0 : 0 < g := by omega
  have hul := RL.len hR
  walk_at "r"
  refine ⟨sz (by simp), fun f hf => ?_⟩
  have c1 := Stp.cell (S := S0) (o := .lst []) hF hf
  have h1 : upd H f (.lst []) f = some (.lst []) := upd_same
  have f0 : F f = none := hF.free hf
  generalize upd H f (.lst []) = H1 at c1 h1 ⊢
  walk_at "r"
  refine s_len (SqL.of (c1.fh _ _ ha)) ?_
  walk_at "r"
  have hcl := chunk_len g0 ls
  have hcb : (chunk g ls).length ≤ 1010 := by
    rw [hcl]; exact Nat.le_trans (Nat.div_le_self _ _) (by omega)
  have en : (((us.length : Nat) : Int) + (g : Int) - 1) / (g : Int) = (((chunk g ls).length : Nat) : Int) := by
    rw [hcl, Int.natCast_ediv]
    congr 1
    omega
  refine ⟨_, _, _, (chunk g ls).length, rfl, ?_, ?_⟩
  · have := rgc_up (L := ((us.length : Nat) : Int)) (k := (g : Int)) (by omega) (by omega) (by omega) (by omega)
    rw [en, Int.toNat_natCast] at this
    exact this
  refine forW walk_rangeC (fun i σ H' => ∃ v3 v4 v5 Fi accs, σ = [some (.ref a), some (.int g), some (.ref f), v3, v4, v5] ∧ Stp S0 F H Fi H' ∧ Fi f = none ∧ H' f = some (.lst accs) ∧ RL Fi accs (((chunk g ls).take i).map grpC).flatten ∧ accs.length ≤ 9 * i)
    ⟨_, _, _, F, [], rfl, c1, f0, h1, .nil, by simp⟩ (fun _ _ _ _ _ => trivial) ?_ ?_
  · rintro i x σ H0' H2 hi ⟨v3, v4, v5, Fi, accs, rfl, st, fi, h2, rl, al⟩ ⟨rfl, rfl⟩
    have ei : (0 : Int) + (i : Int) * (g : Int) = ((i * g : Nat) : Int) := by simp
    have ej : ((i * g : Nat) : Int) + (g : Int) = ((i * g + g : Nat) : Int) := by simp
    dsimp only; rw [ei]
    walk_at "r"
    rw [ej]
    have ha2 := st.fh _ _ (st.ff _ _ ha)
    refine s_slL (SqL.of ha2) fun w hw => ?_
    rw [cutV_nat, show i * g + g - i * g = g by omega]
    obtain ⟨s, hs⟩ : ∃ s, (chunk g ls)[i]? = some s := ⟨_, List.getElem?_eq_getElem hi⟩
    have hs2 := hs
    rw [chunk_get g0 _ i hi] at hs2
    have hsm := List.mem_of_getElem? hs
    have slen : s.length ≤ g := by rw [← Option.some.inj hs2, List.length_take]; omega
    have ldg := grp_ok g0 hL s hsm
    have rls : RL Fi ((us.drop (i * g)).take g) s := by
      rw [← Option.some.inj hs2]
      exact LV.mono st.ff (RL.take _ (RL.drop _ hR))
    generalize (us.drop (i * g)).take g = l at rls ⊢
    have lls := RL.len rls
    have s3 := Stp.new (S := S0) (o := .lst l) st.fh hw
    have h3 : upd Fi w (.lst l) w = some (.lst l) := upd_same
    have f3 : upd Fi w (.lst l) f = none := (s3.fo _ _ h2).trans fi
    have h23 := s3.same _ _ h2
    have st3 := st.trans s3
    have rl3 := LV.mono s3.ff rl
    have rls3 := LV.mono s3.ff rls
    clear s3 rl rls st
    generalize upd Fi w (.lst l) = F3 at *
    generalize upd H2 w (.lst l) = H3 at *
    walk_at "r"
    refine ⟨rfl, w, l, s, rfl, SqL.of (st3.fh _ _ h3), LV.mono st3.fh rls3, by omega, fun l hl => ldg l (List.mem_append_left _ hl), fun u H4 e4 u0 hu => ?_⟩
    have s4 := Stp.got (S := S0) st3.fh e4 u0 hu
    have h4u : upd F3 u (.lst ((sumC s).map V.int)) u = some (.lst ((sumC s).map V.int)) := upd_same
    have f4 : upd F3 u (.lst ((sumC s).map V.int)) f = none := (s4.fo _ _ h23).trans f3
    have h24 := s4.same _ _ h23
    have st4 := st3.trans s4
    have rl4 := LV.mono s4.ff rl3
    have rls4 := LV.mono s4.ff rls3
    have h34 := s4.ff _ _ h3
    clear s4 rl3 rls3 st3
    generalize upd F3 u (.lst ((sumC s).map V.int)) = F4 at *
    walk_at "r"
    refine ⟨sz (by simp), fun y hy => ?_⟩
    have e5 : Same H4 (upd H4 y (.lst [.ref u])) := (Stp.new (S := S0) (Same.refl _) hy).same
    have h5 : upd H4 y (.lst [.ref u]) y = some (.lst [.ref u]) := upd_same
    generalize upd H4 y (.lst [.ref u]) = H5 at e5 h5 ⊢
    walk_at "r"
    refine ⟨_, _, _, _, rfl, rfl, e5 _ _ (st4.fh _ _ h34), h5, sz (by rw [lls, List.length_singleton]; omega), fun c2 hc2 => ?_⟩
    have s6 := (Stp.ofSame (S := S0) st4.fh e5).trans (Stp.new (S := S0) (o := .lst (l ++ [.ref u])) (st4.fh.trans e5) hc2)
    have h6 : upd F4 c2 (.lst (l ++ [.ref u])) c2 = some (.lst (l ++ [.ref u])) := upd_same
    have f6 : upd F4 c2 (.lst (l ++ [.ref u])) f = none := (s6.fo _ _ h24).trans f4
    have h26 := s6.same _ _ h24
    have st6 := st4.trans s6
    have rl6 := LV.mono s6.ff rl4
    have rlc : RL (upd F4 c2 (.lst (l ++ [.ref u]))) (l ++ [.ref u]) (s ++ [sumC s]) := LV.mono s6.ff (RL.snoc rls4 h4u)
    clear s6 rl4 rls4 st4
    generalize upd F4 c2 (.lst (l ++ [.ref u])) = F6 at *
    generalize upd H5 c2 (.lst (l ++ [.ref u])) = H6 at *
    walk_at "r"
    refine ⟨c2, rfl, ⟨_, SqL.of (st6.fh _ _ h6)⟩, ?_⟩
    refine forL (xs := l ++ [.ref u]) (fun j σ H' => ∃ v5 Fj bccs, σ = [some (.ref a), some (.int g), some (.ref f), some (.int ((i * g : Nat) : Int)), some (.ref w), v5] ∧ Same F6 Fj ∧ Stp S0 F H Fj H' ∧ Fj f = none ∧ H' f = some (.lst bccs) ∧ RL Fj bccs ((((chunk g ls).take i).map grpC).flatten ++ ((s ++ [sumC s]).take j).map cellC) ∧ bccs.length ≤ 9 * i + j)
      ⟨_, F6, accs, rfl, Same.refl _, st6, f6, h26, by rw [List.take_zero, List.map_nil, List.append_nil]; exact rl6, by omega⟩ (fun j σ H' _ ⟨_, _, _, _, s, s', _⟩ => SqL.of (s'.fh _ _ (s _ _ h6))) ?_ ?_
    · rintro j x σ H7 hx ⟨v5, Fj, bccs, rfl, e67, st7, f7, h7, rl7, bl⟩
      obtain ⟨b3, l3, rfl, hl3, hb3⟩ := RL.get rlc j hx
      have ld3 := ldg l3 (List.mem_of_getElem? hl3)
      have hj : j < (s ++ [sumC s]).length := (List.getElem?_eq_some_iff.mp hl3).1
      have hj9 : j ≤ 8 := by rw [List.length_append, List.length_singleton] at hj; omega
      have hb7 := st7.fh _ _ (e67 _ _ hb3)
      walk_at "r"
      refine ⟨.inl ⟨rfl, _, SqL.of h7⟩, ?_⟩
      walk_at "r"
      refine ⟨rfl, b3, l3, rfl, SqL.of hb7, ld3.1, ld3.2, fun k H8 e8 k0 hk => ?_⟩
      refine ⟨_, _, _, _, rfl, rfl, e8 _ _ hb7, hk, sz (by rw [List.length_map, List.length_map, ld3.1, fixL_len]; decide), fun z hz => ?_⟩
      have ec : l3.map V.int ++ (fixL 8 (chk l3)).map V.int = (cellC l3).map V.int := by rw [cellC, List.map_append]
      rw [ec]
      have s9 := (Stp.ofSame (S := S0) st7.fh e8).trans (Stp.new (S := S0) (o := .lst ((cellC l3).map V.int)) (st7.fh.trans e8) hz)
      have h9 : upd Fj z (.lst ((cellC l3).map V.int)) z = some (.lst ((cellC l3).map V.int)) := upd_same
      have f9 : upd Fj z (.lst ((cellC l3).map V.int)) f = none := (s9.fo _ _ h7).trans f7
      have h79 := s9.same _ _ h7
      have st9 := st7.trans s9
      have rl9 := RL.snoc (LV.mono s9.ff rl7) h9
      have e69 := e67.trans s9.ff
      clear s9
      generalize upd Fj z (.lst ((cellC l3).map V.int)) = F9 at *
      generalize upd H8 z (.lst ((cellC l3).map V.int)) = H9 at *
      walk_at "r"
      refine ⟨f, _, _, rfl, rfl, h79, Nat.lt_of_lt_of_le (m := 100000) (by omega) (by decide), ?_⟩
      refine ⟨_, F9, bccs ++ [.ref z], rfl, e69, st9.wrNew hf f9, f9, upd_same, ?_, by rw [List.length_append, List.length_singleton]; omega⟩
      rw [List.getElem?_eq_getElem hj] at hl3
      rw [List.take_succ_eq_append_getElem hj, List.map_append, ← List.append_assoc, Option.some.inj hl3]
      exact rl9
    · rintro σ H7 ⟨v5, Fj, bccs, rfl, e67, st7, f7, h7, rl7, bl⟩
      have et : (s ++ [sumC s]).take (l ++ [V.ref u]).length = s ++ [sumC s] := List.take_of_length_le (by rw [List.length_append, List.length_append, lls]; exact Nat.le_refl _)
      rw [et] at rl7
      rw [List.length_append, List.length_singleton, lls] at bl
      refine ⟨_, _, _, Fj, bccs, rfl, st7, f7, h7, ?_, by omega⟩
      rw [List.getElem?_eq_getElem hi] at hs
      rw [List.take_succ_eq_append_getElem hi, List.map_append, List.flatten_append, Option.some.inj hs]
      rw [show (List.map grpC [s]).flatten = grpC s by simp]
      exact rl7
  · rintro σ H2 ⟨v3, v4, v5, Fi, accs, rfl, st, fi, h2, rl, al⟩
    rw [List.take_length] at rl
    walk_at "r"
    have s3 := st.freeze hf h2 fi
    refine q f _ H2 accs s3 upd_same (LV.mono (fun b o h => ?_) rl)
    rw [upd_ne (ne_of_none h fi)]; exact h
abbrev s_law_loads : Stmt := topS 40
theorem sc_law_loads : FnScope ["_law_told", "_law_whole", "_law_at"] ["_law_told"] (defScope s_law_loads) := ⟨rfl, rfl, rfl, by decide +kernel, rfl, by decide +kernel, by decide +kernel⟩
def Ok_law_loads (P : Program) (w : World) (K : PySem.W.Frag) (mg : Str → Option Value) (base : Heap) : Prop := ∃ fA fd, Fn P w K mg base (L2.CX P w) 1 "_law_loads" s_law_loads fA fd ["_law_told"] (sp_law_loads K mg)
theorem okx_law_loads (Z : Zs K mg) {fA : Addr} {fd : FuncData} (F : Fun K "_law_loads" "_law_loads" s_law_loads fA fd) (m : mg "_law_loads" = some (.ref fA))  : Fn P w K mg base (L2.CX P w) 1 "_law_loads" s_law_loads fA fd ["_law_told"] (sp_law_loads K mg) := by
  refine ⟨F.okX sc_law_loads (fun vs H Q E h => h.1) (fun cdv A outer s H vs Q E hr h => ?_), m, F.kp, F.binds fun _ _ _ _ _ _ us hl => match us, hl with | [_], _ => rfl, F⟩
  have hu64 := hr.units
  obtain ⟨hlen, h⟩ := h
  refine ⟨_, (pss_cons (ps_set (i := 1) sc_law_loads.nd rfl (Or.inr rfl) (pe_op op_cat (pv 0) (pe_op op_rep (pe_lst (pa_cons pe_int pa_nil)) (pe_op op_mod (pe_un un_neg (pe_callB (c_len K rfl) (by rfl) Z.z_len (by decide +kernel) (pa_cons (pv 0) pa_nil))) pe_int))))
    (pss_one (ps_ret (pe_lc (own := [("_law_at", 2)]) (g := gName 2) (tt := tYes) (by rfl) sc_law_loads.nd (pi_range3 rfl Z.z_range (pa_cons pe_int (pa_cons (pe_callB (c_len K rfl) (by rfl) Z.z_len (by decide +kernel) (pa_cons (pv 1) pa_nil)) (pa_cons pe_int pa_nil)))) (blkOk_by (own := [("_law_at", 2)]) (N := ["_law_told", "_law_whole", "_law_at"]) (sc := defScope s_law_loads) (by decide +kernel)) (fun _ _ _ _ _ => (pg_name (i := 2) sc_law_loads.nd rfl (Or.inl rfl))) (fun _ _ _ _ _ => pts_nil) (fun _ _ _ _ _ => (pe_slice (l_list K rfl) (pv 1) (po_some (pv 2)) (po_some (pe_op op_add (pv 2) pe_int)))))))), ?_⟩
  obtain ⟨F, a, t, rfl, hF, ha, hn, q⟩ := h
  have ha1 := hF _ _ ha
  walk_at "r"
  refine ⟨sz (by simp), fun b hb => ?_⟩
  have e3 : Same H (upd H b (.lst [.int 0])) := (Stp.new (S := S0) (Same.refl _) hb).same
  have h3 : upd H b (.lst [.int 0]) b = some (.lst [.int 0]) := upd_same
  generalize upd H b (.lst [.int 0]) = H3 at e3 h3 ⊢
  replace ha1 := e3 _ _ ha1
  walk_at "r"
  refine s_rep h3 (by omega) (by omega) fun b2 hb2 => ?_
  have ek : (-(((t.map V.int).length : Nat) : Int) % 48).toNat = (48 - t.length % 48) % 48 := by rw [List.length_map]; omega
  rw [ek]
  have e4 : Same H3 (upd H3 b2 (.lst (List.replicate ((48 - t.length % 48) % 48) (V.int 0)))) := (Stp.new (S := S0) (Same.refl _) hb2).same
  have h4 : upd H3 b2 (.lst (List.replicate ((48 - t.length % 48) % 48) (V.int 0))) b2 = some (.lst (List.replicate ((48 - t.length % 48) % 48) (V.int 0))) := upd_same
  generalize upd H3 b2 (.lst (List.replicate ((48 - t.length % 48) % 48) (V.int 0))) = H4 at e4 h4 ⊢
  replace ha1 := e4 _ _ ha1
  walk_at "r"
  have ep : t.map V.int ++ List.replicate ((48 - t.length % 48) % 48) (V.int 0) = (padC t).map V.int := by rw [padC, List.map_append, List.map_replicate]
  have hpl : (padC t).length ≤ 2100 := by rw [padC_length]; omega
  refine ⟨_, _, _, _, rfl, rfl, ha1, h4, sz (by rw [List.length_map, List.length_replicate]; omega), fun w hw => ?_⟩
  rw [ep]
  have e5 : Same H4 (upd H4 w (.lst ((padC t).map V.int))) := (Stp.new (S := S0) (Same.refl _) hw).same
  have h5 : upd H4 w (.lst ((padC t).map V.int)) w = some (.lst ((padC t).map V.int)) := upd_same
  generalize upd H4 w (.lst ((padC t).map V.int)) = H5 at e5 h5 ⊢
  have e05 : Same H H5 := e3.trans (e4.trans e5)
  walk_at "r"
  have en : ((((padC t).map V.int).length : Nat) : Int) + (48 : Int) - 1 = (((padC t).length + 48 - 1 : Nat) : Int) := by rw [List.length_map]; omega
  have hcl := chunk_len (k := 48) (by decide) (padC t)
  refine ⟨_, _, _, (chunk 48 (padC t)).length, rfl, ?_, ?_⟩
  · have := rgc_up (L := ((((padC t).map V.int).length : Nat) : Int)) (k := 48) (by omega) (by rw [List.length_map]; omega) (by decide) (by decide)
    rw [en, show (((padC t).length + 48 - 1 : Nat) : Int) / 48 = (((chunk 48 (padC t)).length : Nat) : Int) by rw [hcl]; simp, Int.toNat_natCast] at this
    exact this
  have hs5 : Stp S0 F H F H5 := .ofSame hF e05
  refine lcW walk_rangeC S0 hs5.fh (fun _ z => z.elim) (fun _ _ _ => trivial) (fun i acc F1 H1 => RL F1 acc ((chunk 48 (padC t)).take i)) (fun _ _ _ _ _ _ _ _ _ r => r) .nil ?_ ?_
  · rintro i x acc d F1 H1 H2 hi ⟨rfl, rfl⟩ hd nS st f0 e hl rr
    have ei : (0 : Int) + (i : Int) * 48 = ((i * 48 : Nat) : Int) := by simp
    have ej : ((i * 48 : Nat) : Int) + 48 = ((i * 48 + 48 : Nat) : Int) := by simp
    dsimp only; rw [ei]
    walk_at "r"
    rw [ej]
    refine s_slL (st.same.seq (SqL.of h5)) fun p hp => ?_
    rw [cutV_nat, show i * 48 + 48 - i * 48 = 48 by omega, ← List.map_drop, ← List.map_take]
    have s4 := Stp.new (S := S0) (o := .lst ((((padC t).drop (i * 48)).take 48).map V.int)) st.fh hp
    refine lc_end hd nS st f0 e hl (by omega) s4 ?_
    have hg := chunk_get (by decide) (padC t) i hi
    rw [List.take_succ_eq_append_getElem hi]
    rw [List.getElem?_eq_getElem hi] at hg
    rw [Option.some.inj hg]
    exact RL.snoc (LV.mono s4.ff rr) upd_same
  · intro d acc F0 F1 H1 st hd f0 ef st1 hl rr
    rw [List.take_length] at rr
    refine q d F1 H1 acc (hs5.trans st1) (by rw [ef]; exact upd_same) (LV.mono ?_ rr)
    rw [ef]
    exact (Stp.new (S := S0) (Same.refl F0) f0).ff
abbrev s_law_joined : Stmt := topS 41
theorem sc_law_joined : FnScope ["_law_cells_here", "_law_found", "_law_cell"] ["_law_cells_here"] (defScope s_law_joined) := ⟨rfl, rfl, rfl, by decide +kernel, rfl, by decide +kernel, by decide +kernel⟩
def Ok_law_joined (P : Program) (w : World) (K : PySem.W.Frag) (mg : Str → Option Value) (base : Heap) : Prop := ∃ fA fd, Fn P w K mg base (L2.CX P w) 1 "_law_joined" s_law_joined fA fd ["_law_cells_here"] (sp_law_joined K mg)
theorem okx_law_joined (Z : Zs K mg) {fA : Addr} {fd : FuncData} (F : Fun K "_law_joined" "_law_joined" s_law_joined fA fd) (m : mg "_law_joined" = some (.ref fA))  : Fn P w K mg base (L2.CX P w) 1 "_law_joined" s_law_joined fA fd ["_law_cells_here"] (sp_law_joined K mg) := by
  refine ⟨F.okX sc_law_joined (fun vs H Q E h => h.1) (fun cdv A outer s H vs Q E hr h => ?_), m, F.kp, F.binds fun _ _ _ _ _ _ us hl => match us, hl with | [_], _ => rfl, F⟩
  have hu64 := hr.units
  obtain ⟨hlen, h⟩ := h
  refine ⟨_, (pss_cons (ps_set (i := 1) sc_law_joined.nd rfl (Or.inl rfl) (pe_lst pa_nil))
    (pss_cons (ps_for (passes_of rfl) rfl (pi_list (pv 0)) (pg_name (i := 2) sc_law_joined.nd rfl (Or.inl rfl))
      (pss_one (ps_expr (pe_bm PySem.F.plainAttrs_list PySem.F.slot_list_extend PySem.F.type_list_extend mt_extend (pv 1) (pa_cons (pv 2) pa_nil)))))
    (pss_one (ps_ret (pv 1))))), ?_⟩
  obtain ⟨a, us, ls, rfl, hS, hR, hn, hL, q⟩ := h
  walk_at "r"
  refine ⟨sz (by simp), fun f hf => ?_⟩
  have c1 := Stp.cell (S := S0) (o := .lst []) (Same.refl H) hf
  have h1 : upd H f (.lst []) f = some (.lst []) := upd_same
  have e1 : Same H (upd H f (.lst [])) := c1.same
  generalize upd H f (.lst []) = H1 at e1 h1 ⊢
  walk_at "r"
  refine ⟨a, rfl, ⟨_, e1.seq hS⟩, ?_⟩
  refine forL (xs := us) (fun i σ H' => ∃ v, σ = [some (.ref a), some (.ref f), v] ∧ Same H H' ∧ H' f = some (.lst ((ls.take i).flatten.map V.int))) ⟨_, rfl, e1, by rw [h1]; simp⟩ (fun i σ H' _ ⟨_, _, s, _⟩ => s.seq hS) ?_ ?_
  · rintro i x σ H' hx ⟨v, rfl, e2, h2⟩
    obtain ⟨b, l, rfl, hl1, hb1⟩ := RL.get hR i hx
    have hi : i < ls.length := (List.getElem?_eq_some_iff.mp hl1).1
    have fl := flat_len (k := 56) (ls.take i) (fun b hb => hL b (List.mem_of_mem_take hb))
    rw [List.length_take] at fl
    have l56 := hL l (List.mem_of_getElem? hl1)
    walk_at "r"
    refine ⟨.inl ⟨rfl, _, SqL.of h2⟩, ?_⟩
    walk_at "r"
    refine ⟨f, b, _, _, rfl, rfl, h2, e2 _ _ hb1, Nat.le_trans (m := 100000) (by rw [List.length_map, List.length_map, fl, l56]; omega) (by decide), ?_⟩
    refine ⟨_, rfl, fun b' o' h' => ?_, ?_⟩
    · rw [upd_ne (ne_of_none h' hf)]; exact e2 _ _ h'
    · rw [List.getElem?_eq_getElem hi] at hl1
      rw [upd_same, List.take_succ_eq_append_getElem hi, List.flatten_append, Option.some.inj hl1]; simp
  · rintro σ H' ⟨v, rfl, e2, h2⟩
    walk_at "r"
    refine q f H' e2 hf ?_
    rw [h2, RL.len hR, List.take_length]
abbrev s_law_bits : Stmt := topS 42
theorem sc_law_bits : FnScope ["_law_source", "_law_cells_here", "_law_figures", "_law_many", "_law_found", "_law_rest", "_law_at"] ["_law_source"] (defScope s_law_bits) := ⟨rfl, rfl, rfl, by decide +kernel, rfl, by decide +kernel, by decide +kernel⟩
def Ok_law_bits (P : Program) (w : World) (K : PySem.W.Frag) (mg : Str → Option Value) (base : Heap) : Prop := ∃ fA fd, Fn P w K mg base (L2.CX P w) 2 "_law_bits" s_law_bits fA fd ["_law_source"] (sp_law_bits K mg)
theorem okx_law_bits (Z : Zs K mg) {fA : Addr} {fd : FuncData} (F : Fun K "_law_bits" "_law_bits" s_law_bits fA fd) (m : mg "_law_bits" = some (.ref fA)) (C_law_take : Ok_law_take P w K mg base) (C_law_count : Ok_law_count P w K mg base) : Fn P w K mg base (L2.CX P w) 2 "_law_bits" s_law_bits fA fd ["_law_source"] (sp_law_bits K mg) := by
  obtain ⟨_, _, C_law_take⟩ := C_law_take
  obtain ⟨_, _, C_law_count⟩ := C_law_count
  refine ⟨F.okX sc_law_bits (fun vs H Q E h => h.1) (fun cdv A outer s H vs Q E hr h => ?_), m, F.kp, F.binds fun _ _ _ _ _ _ us hl => match us, hl with | [_], _ => rfl, F⟩
  have hu64 := hr.units
  obtain ⟨hlen, h⟩ := h
  refine ⟨_, (pss_cons (ps_set (i := 1) sc_law_bits.nd rfl (Or.inl rfl) (pe_op op_add pe_int (pe_call C_law_take.G (hr.mono (by decide)) rfl C_law_take.m C_law_take.kp C_law_take.b .nil passL (pa_cons (pv 0) (pa_cons pe_int pa_nil)))))
    (pss_cons (ps_set (i := 2) sc_law_bits.nd rfl (Or.inl rfl) (pe_callB (c_len K rfl) (by rfl) Z.z_len (by decide +kernel) (pa_cons (pe_call C_law_count.G (hr.mono (by decide)) rfl C_law_count.m C_law_count.kp C_law_count.b .nil passL (pa_cons (pe_op op_mul pe_int (pv 1)) pa_nil)) pa_nil)))
    (pss_cons (ps_set (i := 3) sc_law_bits.nd rfl (Or.inl rfl) (pe_op op_sub (pe_op op_add (pe_op op_sub (pe_op op_mul pe_int (pv 1)) (pv 2)) (pe_call C_law_take.G (hr.mono (by decide)) rfl C_law_take.m C_law_take.kp C_law_take.b .nil passL (pa_cons (pv 0) (pa_cons pe_int pa_nil)))) pe_int))
    (pss_cons (ps_set (i := 3) sc_law_bits.nd rfl (Or.inl rfl) (pe_ifExp (pt_cmpR op_eq (pe_call C_law_take.G (hr.mono (by decide)) rfl C_law_take.m C_law_take.kp C_law_take.b .nil passL (pa_cons (pv 0) (pa_cons pe_int pa_nil))) pe_int (nomark _)) pe_int (pv 3)))
    (pss_cons (ps_par (i := 4) (j := 5) (by rfl) sc_law_bits.nd rfl rfl (by decide) rfl rfl (pa_cons (pe_lst pa_nil) (pa_cons pe_int pa_nil)) (by rfl))
    (pss_cons (ps_for (passes_of rfl) rfl (pi_range1 rfl Z.z_range (pa_cons (pv 3) pa_nil)) (pg_name (i := 6) sc_law_bits.nd rfl (Or.inl rfl))
      (pss_cons (ps_if (pt_cmpR op_eq (pe_op op_mod (pv 6) pe_int) pe_int (nomark _))
      (pss_one (ps_set (i := 5) sc_law_bits.nd rfl (Or.inl rfl) (pe_call C_law_take.G (hr.mono (by decide)) rfl C_law_take.m C_law_take.kp C_law_take.b .nil passL (pa_cons (pv 0) (pa_cons pe_int pa_nil)))))
      pss_nil)
    (pss_cons (ps_expr (pe_bm PySem.F.plainAttrs_list PySem.F.slot_list_append PySem.F.type_list_append mt_append (pv 4) (pa_cons (pe_op op_mod (pv 5) pe_int) pa_nil)))
    (pss_one (ps_set (i := 5) sc_law_bits.nd rfl (Or.inl rfl) (pe_op op_fdiv (pv 5) pe_int))))))
    (pss_one (ps_ret (pv 4))))))))), ?_⟩
  obtain ⟨F, p, rfl, hs, q⟩ := h
  walk_at "r"
  refine ⟨rfl, F, p, _, rfl, hs, by decide, by decide, fun r1 H1 s1 t1 r10 r11 => ?_⟩
  walk_at "r"
  refine ⟨rfl, (48 * (1 + r1)).toNat, by simp; omega, by omega, fun c H2 e2 c0 hc => ?_⟩
  have hcs := countL_short (n := (48 * (1 + r1)).toNat) (by omega)
  obtain ⟨fg, hfg⟩ : ∃ fg : Nat, ((countL (48 * (1 + r1)).toNat).map V.int).length = fg := ⟨_, rfl⟩
  have hfg2 : fg ≤ 17 := by rw [← hfg, List.length_map]; exact hcs
  have s2 := s1.of e2
  have t2 : Stp (S1 p) F H F H2 := t1.trans (.ofSame s1.1 e2)
  walk_at "r"
  rw [hfg]
  refine ⟨rfl, F, p, _, rfl, s2, by decide, by decide, fun r2 H3 s3 t3 r20 r21 => ?_⟩
  have t3 := t2.trans t3
  walk_at "r"
  refine ⟨rfl, F, p, _, rfl, s3, by decide, by decide, fun r3 H4 s4 t4 r30 r31 => ?_⟩
  have t4 := t3.trans t4
  walk_at "r"
  refine ifd (fun h3 => ?_) (fun h3 => ?_)
  · walk_at "r"
    refine ⟨sz (by simp), fun f hf => ?_⟩
    have cf := Stp.cell (S := S1 p) (o := .lst []) s4.1 hf
    have s5 := s4.upd (o := .lst []) (fun z => by obtain ⟨o, e⟩ := s4.dom; rw [← z, hf] at e; cases e) (s4.1.free hf)
    have h5 : upd H4 f (.lst []) f = some (.lst []) := upd_same
    have fF : F f = none := s4.1.free hf
    have f0 : H f = none := by
      cases e : H f with
      | none => rfl
      | some o =>
        obtain ⟨o', e'⟩ := t4.dom f o e
        rw [hf] at e'; cases e'
    have nfp : f ≠ p := fun z => by obtain ⟨o, e⟩ := s4.dom; rw [← z, hf] at e; cases e
    have t5 := t4.trans cf
    clear cf
    generalize upd H4 f (.lst []) = H5 at s5 h5 t5 ⊢
    walk_at "r"
    refine ⟨_, rfl, by omega, by omega, ?_⟩
    have hm : (0 : Int).toNat ≤ 400 := by omega
    refine forR (fun i σ H' => ∃ v6 rest bs, σ = [some (.ref p), some (.int (1 + r1)), some (.int fg), some (.int (0 : Int)), some (.ref f), some (.int rest), v6] ∧ Src F H' p ∧ Stp (S1 p) F H F H' ∧ H' f = some (.lst (bs.map V.int)) ∧ bs.length = i ∧ isBits bs) ⟨_, 0, [], rfl, s5, t5, h5, rfl, fun _ h => by cases h⟩ ?_ ?_
    · rintro i σ H6 hi ⟨v6, rest, bs, rfl, s6, t6, h6, bl, bb⟩
      have fin : ∀ (rest : Int) H7, Src F H7 p → Stp (S1 p) F H F H7 → H7 f = some (.lst (bs.map V.int)) → ∃ v6 rest' bs', ([some (.ref p), some (.int (1 + r1)), some (.int fg), some (.int (0 : Int)), some (.ref f), some (.int (rest / 2)), some (.int (0 + (i : Int)))] : L2.St) = [some (.ref p), some (.int (1 + r1)), some (.int fg), some (.int (0 : Int)), some (.ref f), some (.int rest'), v6] ∧ Src F (upd H7 f (.lst (bs.map V.int ++ [.int (rest % 2)]))) p ∧ Stp (S1 p) F H F (upd H7 f (.lst (bs.map V.int ++ [.int (rest % 2)]))) ∧ upd H7 f (.lst (bs.map V.int ++ [.int (rest % 2)])) f = some (.lst (bs'.map V.int)) ∧ bs'.length = i + 1 ∧ isBits bs' := fun rest H7 s7 t7 h7 =>
        ⟨_, _, bs ++ [rest % 2], rfl, s7.upd nfp fF, t7.wrNew f0 fF, by rw [upd_same]; simp, by simp [bl], fun x hx => by
          rcases List.mem_append.mp hx with hx | hx
          · exact bb x hx
          · rw [List.mem_singleton.mp hx]; unfold isBit; omega⟩
      walk_at "r"
      refine ifd (fun h => ?_) (fun h => ?_)
      · walk_at "r"
        refine ⟨rfl, F, p, _, rfl, s6, by decide, by decide, fun r5 H7 s7 t7 r50 r51 => ?_⟩
        have h7 := t7.keep _ _ (fun z => nfp z) h6
        walk_at "r"
        refine ⟨.inl ⟨rfl, _, SqL.of h7⟩, ?_⟩
        walk_at "r"
        refine ⟨f, _, _, rfl, rfl, h7, Nat.lt_of_lt_of_le (m := 10000) (by rw [List.length_map]; omega) (by decide), ?_⟩
        walk_at "r"
        exact fin r5 H7 s7 (t6.trans t7) h7
      · walk_at "r"
        refine ⟨.inl ⟨rfl, _, SqL.of h6⟩, ?_⟩
        walk_at "r"
        refine ⟨f, _, _, rfl, rfl, h6, Nat.lt_of_lt_of_le (m := 10000) (by rw [List.length_map]; omega) (by decide), ?_⟩
        walk_at "r"
        exact fin rest H6 s6 t6 h6
    · rintro σ H6 ⟨v6, rest, bs, rfl, s6, t6, h6, bl, bb⟩
      walk_at "r"
      have t7 := t6.freeze f0 h6 fF
      exact q f bs _ H6 (s6.frz nfp.symm t7.fh) t7 upd_same bb (by omega)
  · walk_at "r"
    refine ⟨sz (by simp), fun f hf => ?_⟩
    have cf := Stp.cell (S := S1 p) (o := .lst []) s4.1 hf
    have s5 := s4.upd (o := .lst []) (fun z => by obtain ⟨o, e⟩ := s4.dom; rw [← z, hf] at e; cases e) (s4.1.free hf)
    have h5 : upd H4 f (.lst []) f = some (.lst []) := upd_same
    have fF : F f = none := s4.1.free hf
    have f0 : H f = none := by
      cases e : H f with
      | none => rfl
      | some o =>
        obtain ⟨o', e'⟩ := t4.dom f o e
        rw [hf] at e'; cases e'
    have nfp : f ≠ p := fun z => by obtain ⟨o, e⟩ := s4.dom; rw [← z, hf] at e; cases e
    have t5 := t4.trans cf
    clear cf
    generalize upd H4 f (.lst []) = H5 at s5 h5 t5 ⊢
    walk_at "r"
    refine ⟨_, rfl, by omega, by omega, ?_⟩
    have hm : (48 * (1 + r1) - (fg : Int) + r2 - 2).toNat ≤ 400 := by omega
    refine forR (fun i σ H' => ∃ v6 rest bs, σ = [some (.ref p), some (.int (1 + r1)), some (.int fg), some (.int (48 * (1 + r1) - (fg : Int) + r2 - 2)), some (.ref f), some (.int rest), v6] ∧ Src F H' p ∧ Stp (S1 p) F H F H' ∧ H' f = some (.lst (bs.map V.int)) ∧ bs.length = i ∧ isBits bs) ⟨_, 0, [], rfl, s5, t5, h5, rfl, fun _ h => by cases h⟩ ?_ ?_
    · rintro i σ H6 hi ⟨v6, rest, bs, rfl, s6, t6, h6, bl, bb⟩
      have fin : ∀ (rest : Int) H7, Src F H7 p → Stp (S1 p) F H F H7 → H7 f = some (.lst (bs.map V.int)) → ∃ v6 rest' bs', ([some (.ref p), some (.int (1 + r1)), some (.int fg), some (.int (48 * (1 + r1) - (fg : Int) + r2 - 2)), some (.ref f), some (.int (rest / 2)), some (.int (0 + (i : Int)))] : L2.St) = [some (.ref p), some (.int (1 + r1)), some (.int fg), some (.int (48 * (1 + r1) - (fg : Int) + r2 - 2)), some (.ref f), some (.int rest'), v6] ∧ Src F (upd H7 f (.lst (bs.map V.int ++ [.int (rest % 2)]))) p ∧ Stp (S1 p) F H F (upd H7 f (.lst (bs.map V.int ++ [.int (rest % 2)]))) ∧ upd H7 f (.lst (bs.map V.int ++ [.int (rest % 2)])) f = some (.lst (bs'.map V.int)) ∧ bs'.length = i + 1 ∧ isBits bs' := fun rest H7 s7 t7 h7 =>
        ⟨_, _, bs ++ [rest % 2], rfl, s7.upd nfp fF, t7.wrNew f0 fF, by rw [upd_same]; simp, by simp [bl], fun x hx => by
          rcases List.mem_append.mp hx with hx | hx
          · exact bb x hx
          · rw [List.mem_singleton.mp hx]; unfold isBit; omega⟩
      walk_at "r"
      refine ifd (fun h => ?_) (fun h => ?_)
      · walk_at "r"
        refine ⟨rfl, F, p, _, rfl, s6, by decide, by decide, fun r5 H7 s7 t7 r50 r51 => ?_⟩
        have h7 := t7.keep _ _ (fun z => nfp z) h6
        walk_at "r"
        refine ⟨.inl ⟨rfl, _, SqL.of h7⟩, ?_⟩
        walk_at "r"
        refine ⟨f, _, _, rfl, rfl, h7, Nat.lt_of_lt_of_le (m := 10000) (by rw [List.length_map]; omega) (by decide), ?_⟩
        walk_at "r"
        exact fin r5 H7 s7 (t6.trans t7) h7
      · walk_at "r"
        refine ⟨.inl ⟨rfl, _, SqL.of h6⟩, ?_⟩
        walk_at "r"
        refine ⟨f, _, _, rfl, rfl, h6, Nat.lt_of_lt_of_le (m := 10000) (by rw [List.length_map]; omega) (by decide), ?_⟩
        walk_at "r"
        exact fin rest H6 s6 t6 h6
    · rintro σ H6 ⟨v6, rest, bs, rfl, s6, t6, h6, bl, bb⟩
      walk_at "r"
      have t7 := t6.freeze f0 h6 fF
      exact q f bs _ H6 (s6.frz nfp.symm t7.fh) t7 upd_same bb (by omega)
abbrev s_law_heard : Stmt := topS 43
theorem sc_law_heard : FnScope ["_law_call"] ["_law_call"] (defScope s_law_heard) := ⟨rfl, rfl, rfl, by decide +kernel, rfl, by decide +kernel, by decide +kernel⟩
theorem gv_law_heard {X : Cx} (Z : Zs X.K X.mg) {g : Addr} {cdg : Value} (q : Str) : LamX.GivesTo X ["_law_call"] "_law_heard" (defScope s_law_heard) g cdg (defBody s_law_heard) "_law_call" q (tt_law_heard X.K X.mg) := by
  intro f c' s H Q tl act hc h
  refine ⟨_, (pss_cons (ps_tryH rfl rfl sc_law_heard.nd takes0 (fun W pn xe tk px => pss_ex (C := fun (Ech : XK) => ∀ cls d σ H, Ech cls d H → σ.length = 1 → W cls d σ H) fun Ech hW => (pss_one (ps_expr (pe_weak (act (fun cls d σ H => σ.length = 1 → W cls d σ H) pn xe Ech _ _ (takes_len tk) hW))))) (.anon ⟨rfl, by decide, .inl Z.x_BadBits.g⟩ (fun a oe cls d pn hz hf => (pss_one (ps_ret pe_str))) (.anon ⟨rfl, by decide, .inl Z.x_Outside.g⟩ (fun a oe cls d pn hz hf => (pss_one (ps_ret pe_str))) (.anon ⟨rfl, by decide, .inl Z.x_BadCells.g⟩ (fun a oe cls d pn hz hf => (pss_one (ps_ret pe_str))) (.anon ⟨rfl, by decide, .inl Z.x_NarrowError.g⟩ (fun a oe cls d pn hz hf => (pss_one (ps_ret pe_str))) .nil)))))
    (pss_one (ps_ret pe_str))), ?_⟩
  refine s_seq ?_
  refine ⟨fun cls d H' => d = none ∧ ((cls = .ref (exA X.mg "BadBits") ∧ Q (.str "bits") H') ∨ (cls = .ref (exA X.mg "Outside") ∧ Q (.str "outside") H') ∨ (cls = .ref (exA X.mg "BadCells") ∧ Q (.str "cells") H')), ?_, ?_⟩
  · rintro cls d σ H2 ⟨rfl, hh⟩ hl
    rcases hh with ⟨rfl, k⟩ | ⟨rfl, k⟩ | ⟨rfl, k⟩
    · refine ⟨true, Z.x_BadBits.exm Z.s_BadBits_BadBits, fun _ b hb => ?_, fun q => nomatch q⟩
      walk_at "r"
      exact k
    · refine ⟨false, Z.x_BadBits.exm Z.s_Outside_BadBits, fun q => (nomatch q), fun _ => ⟨true, Z.x_Outside.exm Z.s_Outside_Outside, fun _ b hb => ?_, fun q => nomatch q⟩⟩
      walk_at "r"
      exact k
    · refine ⟨false, Z.x_BadBits.exm Z.s_BadCells_BadBits, fun q => (nomatch q), fun _ => ⟨false, Z.x_Outside.exm Z.s_BadCells_Outside, fun q => (nomatch q), fun _ => ⟨true, Z.x_BadCells.exm Z.s_BadCells_BadCells, fun _ b hb => ?_, fun q => nomatch q⟩⟩⟩
      walk_at "r"
      exact k
  · walk_at "r"
    refine ⟨_, ⟨rfl, hc, h⟩, fun v H1 k => ?_⟩
    walk_at "r"
    exact k
abbrev s_law_both : Stmt := topS 44
theorem sc_law_both : FnScope ["_law_bits_here", "_law_group", "_law_one_here"] ["_law_bits_here", "_law_group"] (defScope s_law_both) := ⟨rfl, rfl, rfl, by decide +kernel, rfl, by decide +kernel, by decide +kernel⟩
def Ok_law_both (T : Tbs) (P : Program) (w : World) (K : PySem.W.Frag) (mg : Str → Option Value) (base : Heap) : Prop := ∃ fA fd, Fn P w K mg base (L2.CX P w) 8 "_law_both" s_law_both fA fd ["_law_bits_here", "_law_group"] (sp_law_both T K mg)
theorem okx_law_both (Z : Zs K mg) {fA : Addr} {fd : FuncData} (F : Fun K "_law_both" "_law_both" s_law_both fA fd) (m : mg "_law_both" = some (.ref fA)) {T : Tbs} {c0 P0 : Addr} (TB : LamX.TabB base mg c0 P0) (hcode : fd.code = .ref c0) (hmT : (P0, qLam "_law_both") ∈ T) (hu : ∀ p ∈ T, p.1 = P0 → p.2 = qLam "_law_both") (C_law_heard : OkG K mg "_law_heard" "_law_call" s_law_heard ["_law_call"]) (C_open_cells : Ok_open_cells P w K mg base) (C_good : Ok_good P w K mg base) : Fn P w K mg base (L2.CX P w) 8 "_law_both" s_law_both fA fd ["_law_bits_here", "_law_group"] (sp_law_both T K mg) := by
  obtain ⟨_, _, C_law_heard⟩ := C_law_heard
  obtain ⟨_, _, C_open_cells⟩ := C_open_cells
  obtain ⟨_, _, C_good⟩ := C_good
  refine ⟨okXc F sc_law_both (fun vs H Q E h => h.1) (fun A outer s H vs Q E hr h => ?_), m, F.kp, F.binds fun _ _ _ _ _ _ us hl => match us, hl with | [_, _], _ => rfl, F⟩
  have hu64 := hr.units
  obtain ⟨hlen, h⟩ := h
  refine ⟨_, (pss_cons (ps_set (i := 2) sc_law_both.nd rfl (Or.inl rfl) (pe_lam (k := 4) C_law_heard rfl rfl (Or.inl rfl) (gv_law_heard Z _) TB hcode hmT hu (hr.mono (by decide)) (LamX.lamS_by (by rfl)) rfl (fun _ _ _ _ _ => rfl) (fun A outer s H E f c' hr => (pe_call C_good.G (hr.mono (by decide)) rfl C_good.m C_good.kp C_good.b .nil (passes_call (takes_of rfl rfl rfl rfl) (fun _ _ _ _ h => h)) (pa_cons (pv 0) (pa_cons (pv 1) pa_nil))))))
    (pss_one (ps_ret (pe_lst (pa_cons (pv 2) (pa_cons (pe_lam (k := 5) C_law_heard rfl rfl (Or.inl rfl) (gv_law_heard Z _) TB hcode hmT hu (hr.mono (by decide)) (LamX.lamS_by (by rfl)) rfl (fun _ _ _ _ _ => rfl) (fun A outer s H E f c' hr => (pe_call C_open_cells.G (hr.mono (by decide)) rfl C_open_cells.m C_open_cells.kp C_open_cells.b .nil (passes_call (takes_of rfl rfl rfl rfl) (fun _ _ _ _ h => h)) (pa_cons (pv 0) (pa_cons (pv 1) pa_nil))))) pa_nil)))))), ?_⟩
  obtain ⟨a, ns, g, rfl, ha, hn, hT, q⟩ := h
  walk_at "r"
  refine s_lam hT fun H1 x1 T1 => ?_
  have ha1 := x1 _ _ ha notbl_lst
  show tCall _ _ _ _ _ _ _
  walk_at "r"
  -- behind the first word
  have key : ∀ w1 H2, w1 = wGood g ns → Same H1 H2 → (tRet (tLst (tCons (tVar 2) (tCons (LamX.tLam T (tt_law_heard K mg) fun E => tCall (sp_open_cells K mg) [] E (tCons (tVar 0) (tCons (tVar 1) tNil))) tNil))) : TS) ⟨fun x H' => Q V.non H', Q, fun _ _ => False, fun _ _ => False⟩ [some (.ref a), some (.int g), some (.str w1)] H2 := by
    intro w1 H2 hw e2
    subst hw
    walk_at "r"
    refine s_lam (T1.ext e2) fun H3 x3 T3 => ?_
    have x03 : LamX.ExtN H H3 := (x1.trans (sameX e2)).trans x3
    have ha3 := x03 _ _ ha notbl_lst
    show tCall _ _ _ _ _ _ _
    walk_at "r"
    refine ⟨rfl, a, ns, g, rfl, SqL.of ha3, hn, fun H4 e4 => ?_⟩
    have fin : ∀ w2 H5, w2 = wOp (openR g ns) → Same H4 H5 → (∀ (p : Addr), H5 p = none → Q (.ref p) (upd H5 p (.lst [.str (wGood g ns), .str w2]))) := by
      intro w2 H5 hw e5 p hp
      subst hw
      have e6 := (Stp.new (S := S0) (o := .lst [.str (wGood g ns), .str (wOp (openR g ns))]) (Same.refl H5) hp).same
      exact q p _ (x03.trans (sameX (e4.trans (e5.trans e6)))) (T3.ext (e4.trans (e5.trans e6))) upd_same
    generalize openR g ns = r at fin ⊢
    cases r with
    | bits => exact ⟨rfl, .inl ⟨rfl, sz (by simp), fin _ _ rfl (Same.refl _)⟩⟩
    | outside => exact ⟨rfl, .inr (.inl ⟨rfl, sz (by simp), fin _ _ rfl (Same.refl _)⟩)⟩
    | cells => exact ⟨rfl, .inr (.inr ⟨rfl, sz (by simp), fin _ _ rfl (Same.refl _)⟩)⟩
    | non => exact ⟨sz (by simp), fin _ _ rfl (Same.refl _)⟩
    | told bs => exact fun p _ _ => ⟨sz (by simp), fin _ _ rfl (Same.refl _)⟩
  refine ⟨rfl, a, ns, g, rfl, SqL.of ha1, hn, ?_⟩
  have kw : ∀ w H2, w = wGood g ns → Same H1 H2 → _ := fun w H2 hw e => key w H2 hw e
  unfold wGood at kw
  by_cases c1 : ns.all goodI = false
  · rw [if_pos c1] at kw
    exact .inl ⟨c1, rfl, .inl ⟨rfl, kw _ _ rfl (Same.refl _)⟩⟩
  rw [if_neg c1] at kw
  have hg : ns.all goodI = true := by simpa using c1
  by_cases c2 : ¬ (1 ≤ g ∧ g ≤ 8)
  · rw [if_pos c2] at kw
    exact .inr (.inl ⟨hg, c2, rfl, .inr (.inl ⟨rfl, kw _ _ rfl (Same.refl _)⟩)⟩)
  rw [if_neg c2] at kw
  have c2 : 1 ≤ g ∧ g ≤ 8 := Decidable.not_not.mp c2
  by_cases c3 : ¬ sizeOk g.toNat ns.length
  · rw [if_pos c3] at kw
    exact .inr (.inr (.inl ⟨hg, c2, c3, fun H2 e2 => ⟨rfl, .inr (.inr ⟨rfl, kw _ _ rfl e2⟩)⟩⟩))
  · rw [if_neg c3] at kw
    exact .inr (.inr (.inr ⟨hg, c2, Decidable.not_not.mp c3, fun p H2 e2 _ _ => kw _ _ rfl e2⟩))
abbrev s_law_opened : Stmt := topS 45
theorem sc_law_opened : FnScope ["_law_loads_here", "_law_group", "_law_bits_here"] ["_law_loads_here", "_law_group"] (defScope s_law_opened) := ⟨rfl, rfl, rfl, by decide +kernel, rfl, by decide +kernel, by decide +kernel⟩
def Ok_law_opened (T : Tbs) (P : Program) (w : World) (K : PySem.W.Frag) (mg : Str → Option Value) (base : Heap) : Prop := ∃ fA fd, Fn P w K mg base (L2.CX P w) 8 "_law_opened" s_law_opened fA fd ["_law_loads_here", "_law_group"] (sp_law_opened T K mg)
theorem okx_law_opened (Z : Zs K mg) {fA : Addr} {fd : FuncData} (F : Fun K "_law_opened" "_law_opened" s_law_opened fA fd) (m : mg "_law_opened" = some (.ref fA)) {T : Tbs} {c0 P0 : Addr} (TB : LamX.TabB base mg c0 P0) (hcode : fd.code = .ref c0) (hmT : (P0, qLam "_law_opened") ∈ T) (hu : ∀ p ∈ T, p.1 = P0 → p.2 = qLam "_law_opened") (C_law_heard : OkG K mg "_law_heard" "_law_call" s_law_heard ["_law_call"]) (C_open_cells : Ok_open_cells P w K mg base) (C_law_joined : Ok_law_joined P w K mg base) (C_law_cells : Ok_law_cells P w K mg base) : Fn P w K mg base (L2.CX P w) 8 "_law_opened" s_law_opened fA fd ["_law_loads_here", "_law_group"] (sp_law_opened T K mg) := by
  obtain ⟨_, _, C_law_heard⟩ := C_law_heard
  obtain ⟨_, _, C_open_cells⟩ := C_open_cells
  obtain ⟨_, _, C_law_joined⟩ := C_law_joined
  obtain ⟨_, _, C_law_cells⟩ := C_law_cells
  refine ⟨okXc F sc_law_opened (fun vs H Q E h => h.1) (fun A outer s H vs Q E hr h => ?_), m, F.kp, F.binds fun _ _ _ _ _ _ us hl => match us, hl with | [_, _], _ => rfl, F⟩
  have hu64 := hr.units
  obtain ⟨hlen, h⟩ := h
  refine ⟨_, (pss_cons (ps_set (i := 2) sc_law_opened.nd rfl (Or.inr rfl) (pe_call C_law_joined.G (hr.mono (by decide)) rfl C_law_joined.m C_law_joined.kp C_law_joined.b .nil passL (pa_cons (pe_call C_law_cells.G (hr.mono (by decide)) rfl C_law_cells.m C_law_cells.kp C_law_cells.b .nil passL (pa_cons (pv 0) (pa_cons (pv 1) pa_nil))) pa_nil)))
    (pss_one (ps_ret (pe_lam (k := 5) C_law_heard rfl rfl (Or.inl rfl) (gv_law_heard Z _) TB hcode hmT hu (hr.mono (by decide)) (LamX.lamS_by (by rfl)) rfl (fun _ _ _ _ _ => rfl) (fun A outer s H E f c' hr => (pe_call C_open_cells.G (hr.mono (by decide)) rfl C_open_cells.m C_open_cells.kp C_open_cells.b .nil (passes_call (takes_of rfl rfl rfl rfl) (fun _ _ _ _ h => h)) (pa_cons (pv 2) (pa_cons (pv 1) pa_nil)))))))), ?_⟩
  obtain ⟨F, a, us, ls, g, rfl, hF, nT, ha, hR, hl, hL, g1, g8, hT, q⟩ := h
  have hcl := cells_le (g := g) (by omega) ls
  walk_at "r"
  refine ⟨rfl, F, a, us, ls, g, rfl, hF, ha, hR, by omega, hL, by omega, by omega, fun p F1 H1 acc st hp rl => ?_⟩
  walk_at "r"
  refine ⟨rfl, p, acc, _, rfl, SqL.of (st.fh _ _ hp), LV.mono st.fh rl, by omega, fun c hc => (cells_mem (by omega) hL c hc).1, fun y H2 e2 y0 hy => ?_⟩
  have hfl := flat_len _ fun c hc => (cells_mem (g := g) (by omega) hL c hc).1
  walk_at "r"
  refine s_lam (hT.ext (st.same.trans e2)) fun H3 x3 T3 => ?_
  have x03 : LamX.ExtN H H3 := (sameX (st.same.trans e2)).trans x3
  have hy3 := x3 _ _ hy notbl_lst
  show tCall _ _ _ _ _ _ _
  walk_at "r"
  refine ⟨rfl, y, _, (g : Int), rfl, SqL.of hy3, by rw [hfl]; omega, fun H4 e4 => ?_⟩
  have fin := q H4 (x03.trans (sameX e4)) (T3.ext e4)
  generalize openR (g : Int) (cellsC g ls).flatten = r at fin ⊢
  cases r with
  | bits => exact ⟨rfl, .inl ⟨rfl, fin⟩⟩
  | outside => exact ⟨rfl, .inr (.inl ⟨rfl, fin⟩)⟩
  | cells => exact ⟨rfl, .inr (.inr ⟨rfl, fin⟩)⟩
  | non => exact fin
  | told bs => exact fun p _ _ => fin
abbrev s_law_counted : Stmt := topS 47
theorem sc_law_counted : FnScope ["_law_loads_here", "_law_number", "_law_code"] ["_law_loads_here", "_law_number"] (defScope s_law_counted) := ⟨rfl, rfl, rfl, by decide +kernel, rfl, by decide +kernel, by decide +kernel⟩
def Ok_law_counted (P : Program) (w : World) (K : PySem.W.Frag) (mg : Str → Option Value) (base : Heap) : Prop := ∃ fA fd, Fn P w K mg base (L2.CX P w) 2 "_law_counted" s_law_counted fA fd ["_law_loads_here", "_law_number"] (sp_law_counted K mg)
theorem okx_law_counted (Z : Zs K mg) {fA : Addr} {fd : FuncData} (F : Fun K "_law_counted" "_law_counted" s_law_counted fA fd) (m : mg "_law_counted" = some (.ref fA)) (C_law_count : Ok_law_count P w K mg base) : Fn P w K mg base (L2.CX P w) 2 "_law_counted" s_law_counted fA fd ["_law_loads_here", "_law_number"] (sp_law_counted K mg) := by
  obtain ⟨_, _, C_law_count⟩ := C_law_count
  refine ⟨F.okX sc_law_counted (fun vs H Q E h => h.1) (fun cdv A outer s H vs Q E hr h => ?_), m, F.kp, F.binds fun _ _ _ _ _ _ us hl => match us, hl with | [_, _], _ => rfl, F⟩
  have hu64 := hr.units
  obtain ⟨hlen, h⟩ := h
  refine ⟨_, (pss_cons (ps_set (i := 2) sc_law_counted.nd rfl (Or.inl rfl) (pe_call C_law_count.G (hr.mono (by decide)) rfl C_law_count.m C_law_count.kp C_law_count.b .nil passL (pa_cons (pv 1) pa_nil)))
    (pss_one (ps_ret (pe_op op_cat (pe_lst (pa_cons (pe_op op_cat (pv 2) (pe_op op_rep (pe_lst (pa_cons pe_int pa_nil)) (pe_op op_sub pe_int (pe_callB (c_len K rfl) (by rfl) Z.z_len (by decide +kernel) (pa_cons (pv 2) pa_nil))))) pa_nil)) (pe_slice (l_list K rfl) (pv 0) (po_some pe_int) po_none))))), ?_⟩
  obtain ⟨F, a, us, l0, ls, n, rfl, hF, ha, hR, hl, hn, q⟩ := h
  obtain ⟨v0, vs', rfl⟩ : ∃ v0 vs', us = v0 :: vs' := by
    cases hR with
    | cons h r => exact ⟨_, _, rfl⟩
  have hR2 : RL F vs' ls := by
    cases hR with
    | cons h r => exact r
  have hvl := RL.len hR2
  walk_at "r"
  refine ⟨rfl, n, rfl, by omega, fun c H1 e1 c0 hc => ?_⟩
  have b3 : blen (n + 1) ≤ 41 := blen_le (by omega)
  have b1 := blen_pos (n := n + 1) (by omega)
  have hcl : (countL n).length = clen n := countL_length n
  have hc48 : clen n ≤ 81 := by unfold clen; omega
  walk_at "r"
  refine ⟨sz (by simp), fun z0 hz0 => ?_⟩
  have s2 := Stp.new (S := S0) (o := .lst [.int 0]) (Same.refl H1) hz0
  walk_at "r"
  refine s_len (SqL.of (s2.same _ _ hc)) ?_
  walk_at "r"
  rw [List.length_map, hcl]
  refine s_rep upd_same (by omega) (by omega) fun z1 hz1 => ?_
  have ek : ((48 : Int) - (clen n : Int)).toNat = 48 - clen n := by omega
  rw [ek]
  have s3 := Stp.new (S := S0) (o := .lst (List.replicate (48 - clen n) (V.int 0))) s2.fh hz1
  walk_at "r"
  refine ⟨_, _, _, _, rfl, rfl, (s2.same.trans s3.same) _ _ hc, upd_same, sz (by rw [List.length_map, hcl, List.length_replicate]; omega), fun z2 hz2 => ?_⟩
  have el : (countL n).map V.int ++ List.replicate (48 - clen n) (V.int 0) = (countL n ++ List.replicate (48 - clen n) 0).map V.int := by rw [List.map_append, List.map_replicate]
  rw [el]
  have e13 := s2.same.trans s3.same
  clear s2 s3
  generalize upd (upd H1 z0 _) z1 _ = H3 at e13 hz2 ⊢
  have st3 : Stp S0 F H F H3 := .ofSame hF (e1.trans e13)
  have s4 := Stp.new (S := S0) (o := .lst ((countL n ++ List.replicate (48 - clen n) 0).map V.int)) st3.fh hz2
  have st4 := st3.trans s4
  have h4 : upd F z2 (.lst ((countL n ++ List.replicate (48 - clen n) 0).map V.int)) z2 = some (.lst ((countL n ++ List.replicate (48 - clen n) 0).map V.int)) := upd_same
  have hR4 := LV.mono s4.ff hR2
  have ha4 := s4.ff _ _ ha
  clear s4 st3
  generalize upd F z2 _ = F4 at *
  generalize upd H3 z2 _ = H4 at *
  refine ⟨sz (by simp), fun z3 hz3 => ?_⟩
  have e5 := (Stp.new (S := S0) (o := .lst [.ref z2]) (Same.refl H4) hz3).same
  have h5 : upd H4 z3 (.lst [.ref z2]) z3 = some (.lst [.ref z2]) := upd_same
  generalize upd H4 z3 _ = H5 at e5 h5 ⊢
  walk_at "r"
  refine s_slL (SqL.of (e5 _ _ (st4.fh _ _ ha4))) fun z4 hz4 => ?_
  have ec : cutV (v0 :: vs') (some 1) none = vs' := by rw [show (some (1 : Int)) = some ((1 : Nat) : Int) from rfl, cutV_from]; rfl
  rw [ec]
  have e6 := (Stp.new (S := S0) (o := .lst vs') (Same.refl H5) hz4).same
  have h6 : upd H5 z4 (.lst vs') z4 = some (.lst vs') := upd_same
  generalize upd H5 z4 _ = H6 at e6 h6 ⊢
  refine ⟨_, _, _, _, rfl, rfl, e6 _ _ h5, h6, sz (by rw [List.length_singleton]; omega), fun z5 hz5 => ?_⟩
  have st6 := st4.trans (.ofSame st4.fh (e5.trans e6))
  have s7 := Stp.new (S := S0) (o := .lst ([.ref z2] ++ vs')) st6.fh hz5
  exact q z5 _ _ _ (st6.trans s7) upd_same (LV.mono s7.ff (.cons h4 hR4))
abbrev s_law_sizes_right : Stmt := topS 46
theorem sc_law_sizes_right : FnScope ["_law_source", "_law_cells_here", "_law_group", "_law_whole", "_law_nought", "_law_many", "_law_due"] ["_law_source", "_law_cells_here", "_law_group"] (defScope s_law_sizes_right) := ⟨rfl, rfl, rfl, by decide +kernel, rfl, by decide +kernel, by decide +kernel⟩
def Ok_law_sizes_right (T : Tbs) (P : Program) (w : World) (K : PySem.W.Frag) (mg : Str → Option Value) (base : Heap) : Prop := ∃ fA fd, Fn P w K mg base (L2.CX P w) 9 "_law_sizes_right" s_law_sizes_right fA fd ["_law_source", "_law_cells_here", "_law_group"] (sp_law_sizes_right T K mg)
theorem okx_law_sizes_right (Z : Zs K mg) {fA : Addr} {fd : FuncData} (F : Fun K "_law_sizes_right" "_law_sizes_right" s_law_sizes_right fA fd) (m : mg "_law_sizes_right" = some (.ref fA)) {T : Tbs} {c0 P0 : Addr} (TB : LamX.TabB base mg c0 P0) (hcode : fd.code = .ref c0) (hmT : (P0, qLam "_law_sizes_right") ∈ T) (hu : ∀ p ∈ T, p.1 = P0 → p.2 = qLam "_law_sizes_right") (C_law_both : Ok_law_both T P w K mg base) (C_law_one : Ok_law_one P w K mg base) (C_law_heard : OkG K mg "_law_heard" "_law_call" s_law_heard ["_law_call"]) (C_good : Ok_good P w K mg base) (C_law_take : Ok_law_take P w K mg base) (C_law_check : Ok_law_check P w K mg base) (C_law_joined : Ok_law_joined P w K mg base) : Fn P w K mg base (L2.CX P w) 9 "_law_sizes_right" s_law_sizes_right fA fd ["_law_source", "_law_cells_here", "_law_group"] (sp_law_sizes_right T K mg) := by
  obtain ⟨_, _, C_law_both⟩ := C_law_both
  obtain ⟨_, _, C_law_one⟩ := C_law_one
  obtain ⟨_, _, C_law_heard⟩ := C_law_heard
  obtain ⟨_, _, C_good⟩ := C_good
  obtain ⟨_, _, C_law_take⟩ := C_law_take
  obtain ⟨_, _, C_law_check⟩ := C_law_check
  obtain ⟨_, _, C_law_joined⟩ := C_law_joined
  refine ⟨okXc F sc_law_sizes_right (fun vs H Q E h => h.1) (fun A outer s H vs Q E hr h => ?_), m, F.kp, F.binds fun _ _ _ _ _ _ us hl => match us, hl with | [_, _, _], _ => rfl, F⟩
  have hu64 := hr.units
  obtain ⟨hlen, h⟩ := h
  refine ⟨_, (pss_cons (ps_set (i := 3) sc_law_sizes_right.nd rfl (Or.inl rfl) (pe_call C_law_joined.G (hr.mono (by decide)) rfl C_law_joined.m C_law_joined.kp C_law_joined.b .nil passL (pa_cons (pv 1) pa_nil)))
    (pss_cons (ps_if (PW.pt (pw_or (pt_cmpR (o_neD K rfl hu64) (pe_call C_law_both.G (hr.mono (by decide)) rfl C_law_both.m C_law_both.kp C_law_both.b .nil passL (pa_cons (pv 3) (pa_cons (pv 2) pa_nil))) (pe_op op_rep (pe_lst (pa_cons pe_str pa_nil)) pe_int) (nomark _)) (pw_or1 (pt_cmpR (o_neD K rfl hu64) (pe_call C_law_both.G (hr.mono (by decide)) rfl C_law_both.m C_law_both.kp C_law_both.b .nil passL (pa_cons (pe_lst pa_nil) (pa_cons (pv 2) pa_nil))) (pe_op op_rep (pe_lst (pa_cons pe_str pa_nil)) pe_int) (nomark _)))))
      (pss_one (ps_ret pe_bl))
      pss_nil)
    (pss_cons (ps_if (PW.pt (pw_or (pt_cmpR (o_neD K rfl hu64) (pe_call C_law_both.G (hr.mono (by decide)) rfl C_law_both.m C_law_both.kp C_law_both.b .nil passL (pa_cons (pe_slice (l_list K rfl) (pv 3) po_none (po_some (pe_op op_sub (pe_un un_neg pe_int) (pe_call C_law_take.G (hr.mono (by decide)) rfl C_law_take.m C_law_take.kp C_law_take.b .nil passL (pa_cons (pv 0) (pa_cons pe_int pa_nil)))))) (pa_cons (pv 2) pa_nil))) (pe_op op_rep (pe_lst (pa_cons pe_str pa_nil)) pe_int) (nomark _)) (pw_or1 (pt_cmpR (o_neD K rfl hu64) (pe_call C_law_both.G (hr.mono (by decide)) rfl C_law_both.m C_law_both.kp C_law_both.b .nil passL (pa_cons (pe_op op_cat (pv 3) (pe_lst (pa_cons pe_int pa_nil))) (pa_cons (pv 2) pa_nil))) (pe_op op_rep (pe_lst (pa_cons pe_str pa_nil)) pe_int) (nomark _)))))
      (pss_one (ps_ret pe_bl))
      pss_nil)
    (pss_cons (ps_asg (pe_tup (pa_cons (pe_op op_cat (pe_op op_rep (pe_lst (pa_cons pe_int pa_nil)) pe_int) (pe_call C_law_check.G (hr.mono (by decide)) rfl C_law_check.m C_law_check.kp C_law_check.b .nil passL (pa_cons (pe_op op_rep (pe_lst (pa_cons pe_int pa_nil)) pe_int) pa_nil))) (pa_cons (pe_op op_add pe_int (pe_call C_law_take.G (hr.mono (by decide)) rfl C_law_take.m C_law_take.kp C_law_take.b .nil passL (pa_cons (pv 0) (pa_cons pe_int pa_nil)))) pa_nil))) (pg_tup rfl (pgs_cons (pg_name (i := 4) sc_law_sizes_right.nd rfl (Or.inr rfl)) (pgs_cons (pg_name (i := 5) sc_law_sizes_right.nd rfl (Or.inr rfl)) pgs_nil))))
    (pss_cons (ps_set (i := 6) sc_law_sizes_right.nd rfl (Or.inl rfl) (pe_ifExp (pt_cmpR op_eq (pe_op op_mod (pv 5) (pe_op op_add (pv 2) pe_int)) pe_int (nomark _)) pe_str pe_str))
    (pss_cons (ps_if (pt_cmpR op_ne (pe_lam (k := 4) C_law_heard rfl rfl (Or.inl rfl) (gv_law_heard Z _) TB hcode hmT hu (hr.mono (by decide)) (LamX.lamS_by (by rfl)) rfl (fun _ _ _ _ _ => rfl) (fun A outer s H E f c' hr => (pe_call C_good.G (hr.mono (by decide)) rfl C_good.m C_good.kp C_good.b .nil (passes_call (takes_of rfl rfl rfl rfl) (fun _ _ _ _ h => h)) (pa_cons (pe_op op_rep (pv 4) (pv 5)) (pa_cons (pv 2) pa_nil))))) (pv 6) (nomark _))
      (pss_one (ps_ret pe_bl))
      pss_nil)
    (pss_cons (ps_if (pt_cmpR (o_neD K rfl hu64) (pe_call C_law_both.G (hr.mono (by decide)) rfl C_law_both.m C_law_both.kp C_law_both.b .nil passL (pa_cons (pe_op op_cat (pe_op op_cat (pe_op op_cat (pe_slice (l_list K rfl) (pv 3) po_none (po_some pe_int)) (pe_lst (pa_cons pe_int pa_nil))) (pe_slice (l_list K rfl) (pv 3) (po_some pe_int) po_none)) (pe_lst (pa_cons pe_int pa_nil))) (pa_cons pe_int pa_nil))) (pe_op op_rep (pe_lst (pa_cons pe_str pa_nil)) pe_int) (nomark _))
      (pss_one (ps_ret pe_bl))
      pss_nil)
    (pss_one (ps_ret (pe_cmpR (o_eqD K rfl hu64) (pe_call C_law_both.G (hr.mono (by decide)) rfl C_law_both.m C_law_both.kp C_law_both.b .nil passL (pa_cons (pe_op op_cat (pv 3) (pe_lst (pa_cons pe_int pa_nil))) (pa_cons (pe_call C_law_one.G (hr.mono (by decide)) rfl C_law_one.m C_law_one.kp C_law_one.b .nil passL (pa_cons (pv 0) (pa_cons (pe_lst (pa_cons pe_int (pa_cons pe_int pa_nil))) pa_nil))) pa_nil))) (pe_op op_rep (pe_lst (pa_cons pe_str pa_nil)) pe_int) (nomark _))))))))))), ?_⟩
  obtain ⟨F, p, a, bs, g, us, rfl, hs, nT, bB, bl, g1, g8, ha, hR, hT, q⟩ := h
  have zt : ZT _ F H p := ⟨hs, nT, hT⟩
  clear hs nT hT
  have g0 : 0 < g := by omega
  obtain ⟨lds, hcm, hc0, hc20, hcmod⟩ := cells_facts (g := g) g0 bB bl
  have h56 : ∀ c ∈ cellsC g (loadsC bs), c.length = 56 ∧ isBits c := fun c hc => by
    obtain ⟨l, rfl, l48, lB⟩ := hcm c hc
    exact ⟨cellC_len l48, cellC_bits lB⟩
  obtain ⟨hgood, hfl, hsz⟩ := size_ok (g := g) h56 hc0 hcmod
  have wB := all_good.mp hgood
  have ww : wOp (openR (g : Int) (cellsC g (loadsC bs)).flatten) = "let" := by
    have := open_told (m := fun _ => false) (lost := fun _ => false) g0 g8 bB bl (chd_self hcm) rfl (marks_no _ _)
    rw [this, if_neg (by simp)]; rfl
  have wg := wGood_let g1 g8 wB hsz
  obtain ⟨N, hN⟩ : ∃ N, (cellsC g (loadsC bs)).length = N := ⟨_, rfl⟩
  obtain ⟨cs, hcs⟩ : ∃ cs, cellsC g (loadsC bs) = cs := ⟨_, rfl⟩
  rw [hcs] at hR h56 hfl hsz wB ww wg hN hgood
  rw [hN] at hfl
  rw [hcs, hN] at hc0 hc20
  obtain ⟨ns, hns⟩ : ∃ ns, cs.flatten = ns := ⟨_, rfl⟩
  walk_at "r"
  refine ⟨rfl, a, us, cs, rfl, SqL.of (zt.fh _ _ ha), LV.mono zt.fh hR, by omega, fun c hc => (h56 c hc).1, fun y H2 e2 y0 hy => ?_⟩
  obtain ⟨F2, z2, ff2, fy, -⟩ := zt.got e2 y0 hy notbl_lst
  have fus := ff2 _ _ ha
  rw [hns] at fy hfl hsz wB ww wg hgood
  have fF := ff2
  clear hy e2 y0 zt ff2
  walk_at "r"
  refine ⟨rfl, y, ns, (g : Int), rfl, z2.fh _ _ fy, by omega, z2.2.2, fun r1 H3 x3 T3 hr1 => ?_⟩
  rw [(And.intro wg ww).1, (And.intro wg ww).2] at hr1
  have z3 := z2.ext x3 T3
  walk_at "r"
  refine ⟨sz (by simp), fun w3a hw3a => ?_⟩
  generalize eX : upd H3 _ _ = H4
  obtain ⟨F4, z4, ff4, e4, fw3a, -⟩ := z3.frz hw3a eX notbl_lst
  clear eX
  replace fy := ff4 _ _ fy
  replace fus := ff4 _ _ fus
  replace fF := fF.trans ff4
  walk_at "r"
  refine s_rep (z4.fh _ _ fw3a) (by decide) (by decide) fun w3b hw3b => ?_
  generalize eX : upd H4 _ _ = H5
  obtain ⟨F5, z5, ff5, e5, fw3b, -⟩ := z4.frz hw3b eX notbl_lst
  clear eX
  replace fy := ff5 _ _ fy
  replace fus := ff5 _ _ fus
  replace fw3a := ff5 _ _ fw3a
  replace fF := fF.trans ff5
  refine s_neFl (vs := [.str "let", .str "let"]) (SqL.of (e5 _ _ (e4 _ _ hr1))) (SqL.of (z5.fh _ _ fw3b)) (by decide +kernel) ?_
  walk_at "r"
  refine ⟨sz (by simp), fun em hem => ?_⟩
  generalize eX : upd H5 _ _ = H6
  obtain ⟨F6, z6, ff6, e6, fem, -⟩ := z5.frz hem eX notbl_lst
  clear eX
  replace fy := ff6 _ _ fy
  replace fus := ff6 _ _ fus
  replace fw3a := ff6 _ _ fw3a
  replace fw3b := ff6 _ _ fw3b
  replace fF := fF.trans ff6
  walk_at "r"
  refine ⟨rfl, em, [], (g : Int), rfl, z6.fh _ _ fem, by decide, z6.2.2, fun r2 H7 x7 T7 hr2 => ?_⟩
  rw [(And.intro (wGood_cells (ns := []) g1 g8 (by simp [isBits]) (fun z => z.2.1 rfl)) (wOpen_cells (ns := []) g1 g8 (by simp [isBits]) (fun z => z.2.1 rfl))).1, (And.intro (wGood_cells (ns := []) g1 g8 (by simp [isBits]) (fun z => z.2.1 rfl)) (wOpen_cells (ns := []) g1 g8 (by simp [isBits]) (fun z => z.2.1 rfl))).2] at hr2
  have z7 := z6.ext x7 T7
  walk_at "r"
  refine ⟨sz (by simp), fun w7a hw7a => ?_⟩
  generalize eX : upd H7 _ _ = H8
  obtain ⟨F8, z8, ff8, e8, fw7a, -⟩ := z7.frz hw7a eX notbl_lst
  clear eX
  replace fy := ff8 _ _ fy
  replace fus := ff8 _ _ fus
  replace fw3a := ff8 _ _ fw3a
  replace fw3b := ff8 _ _ fw3b
  replace fem := ff8 _ _ fem
  replace fF := fF.trans ff8
  walk_at "r"
  refine s_rep (z8.fh _ _ fw7a) (by decide) (by decide) fun w7b hw7b => ?_
  generalize eX : upd H8 _ _ = H9
  obtain ⟨F9, z9, ff9, e9, fw7b, -⟩ := z8.frz hw7b eX notbl_lst
  clear eX
  replace fy := ff9 _ _ fy
  replace fus := ff9 _ _ fus
  replace fw3a := ff9 _ _ fw3a
  replace fw3b := ff9 _ _ fw3b
  replace fem := ff9 _ _ fem
  replace fw7a := ff9 _ _ fw7a
  replace fF := fF.trans ff9
  refine s_neFl (vs := [.str "cells", .str "cells"]) (SqL.of (e9 _ _ (e8 _ _ hr2))) (SqL.of (z9.fh _ _ fw7b)) (by decide +kernel) ?_
  walk_at "r"
  refine ⟨rfl, _, p, _, rfl, z9.1, by decide, by decide, fun r H10 s10 t10 r0 r1' => ?_⟩
  have z10 := z9.draw s10 t10
  walk_at "r"
  obtain ⟨rn, rfl⟩ : ∃ rn : Nat, r = (rn : Int) := ⟨r.toNat, by omega⟩
  refine s_slL (SqL.of (z10.fh _ _ fy)) fun ct hct => ?_
  rw [show (-1 : Int) - (rn : Int) = -((rn + 1 : Nat) : Int) by omega, cutV_neg _ (by omega), List.length_map, ← List.map_take]
  generalize eX : upd H10 _ _ = H11
  obtain ⟨F11, z11, ff11, e11, fct, -⟩ := z10.frz hct eX notbl_lst
  clear eX
  replace fy := ff11 _ _ fy
  replace fus := ff11 _ _ fus
  replace fw3a := ff11 _ _ fw3a
  replace fw3b := ff11 _ _ fw3b
  replace fem := ff11 _ _ fem
  replace fw7a := ff11 _ _ fw7a
  replace fw7b := ff11 _ _ fw7b
  replace fF := fF.trans ff11
  walk_at "r"
  have b3 : isBits (ns.take (ns.length - (rn + 1))) := fun x hx => wB x (List.mem_of_mem_take hx)
  have l3 : ¬ sizeOk g (ns.take (ns.length - (rn + 1))).length := fun z => by
    have := z.1
    rw [List.length_take] at this
    omega
  refine ⟨rfl, ct, _, (g : Int), rfl, z11.fh _ _ fct, by rw [List.length_take]; omega, z11.2.2, fun r3 H12 x12 T12 hr3 => ?_⟩
  rw [((⟨wGood_cells g1 g8 b3 l3, wOpen_cells g1 g8 b3 l3⟩ : _ ∧ _)).1, ((⟨wGood_cells g1 g8 b3 l3, wOpen_cells g1 g8 b3 l3⟩ : _ ∧ _)).2] at hr3
  have z12 := z11.ext x12 T12
  walk_at "r"
  refine ⟨sz (by simp), fun w12a hw12a => ?_⟩
  generalize eX : upd H12 _ _ = H13
  obtain ⟨F13, z13, ff13, e13, fw12a, -⟩ := z12.frz hw12a eX notbl_lst
  clear eX
  replace fy := ff13 _ _ fy
  replace fus := ff13 _ _ fus
  replace fw3a := ff13 _ _ fw3a
  replace fw3b := ff13 _ _ fw3b
  replace fem := ff13 _ _ fem
  replace fw7a := ff13 _ _ fw7a
  replace fw7b := ff13 _ _ fw7b
  replace fct := ff13 _ _ fct
  replace fF := fF.trans ff13
  walk_at "r"
  refine s_rep (z13.fh _ _ fw12a) (by decide) (by decide) fun w12b hw12b => ?_
  generalize eX : upd H13 _ _ = H14
  obtain ⟨F14, z14, ff14, e14, fw12b, -⟩ := z13.frz hw12b eX notbl_lst
  clear eX
  replace fy := ff14 _ _ fy
  replace fus := ff14 _ _ fus
  replace fw3a := ff14 _ _ fw3a
  replace fw3b := ff14 _ _ fw3b
  replace fem := ff14 _ _ fem
  replace fw7a := ff14 _ _ fw7a
  replace fw7b := ff14 _ _ fw7b
  replace fct := ff14 _ _ fct
  replace fw12a := ff14 _ _ fw12a
  replace fF := fF.trans ff14
  refine s_neFl (vs := [.str "cells", .str "cells"]) (SqL.of (e14 _ _ (e13 _ _ hr3))) (SqL.of (z14.fh _ _ fw12b)) (by decide +kernel) ?_
  walk_at "r"
  walk_at "r"
  refine ⟨sz (by simp), fun o0 ho0 => ?_⟩
  generalize eX : upd H14 _ _ = H15
  obtain ⟨F15, z15, ff15, e15, fo0, -⟩ := z14.frz ho0 eX notbl_lst
  clear eX
  replace fy := ff15 _ _ fy
  replace fus := ff15 _ _ fus
  replace fw3a := ff15 _ _ fw3a
  replace fw3b := ff15 _ _ fw3b
  replace fem := ff15 _ _ fem
  replace fw7a := ff15 _ _ fw7a
  replace fw7b := ff15 _ _ fw7b
  replace fct := ff15 _ _ fct
  replace fw12a := ff15 _ _ fw12a
  replace fw12b := ff15 _ _ fw12b
  replace fF := fF.trans ff15
  refine ⟨_, _, _, _, rfl, rfl, z15.fh _ _ fy, z15.fh _ _ fo0, sz (by rw [List.length_map, List.length_singleton]; omega), fun wz hwz => ?_⟩
  rw [show ns.map V.int ++ [V.int 0] = (ns ++ [0]).map V.int by simp]
  generalize eX : upd H15 _ _ = H16
  obtain ⟨F16, z16, ff16, e16, fwz, -⟩ := z15.frz hwz eX notbl_lst
  clear eX
  replace fy := ff16 _ _ fy
  replace fus := ff16 _ _ fus
  replace fw3a := ff16 _ _ fw3a
  replace fw3b := ff16 _ _ fw3b
  replace fem := ff16 _ _ fem
  replace fw7a := ff16 _ _ fw7a
  replace fw7b := ff16 _ _ fw7b
  replace fct := ff16 _ _ fct
  replace fw12a := ff16 _ _ fw12a
  replace fw12b := ff16 _ _ fw12b
  replace fo0 := ff16 _ _ fo0
  replace fF := fF.trans ff16
  walk_at "r"
  have b4 : isBits (ns ++ [0]) := fun x hx => (List.mem_append.mp hx).elim (wB x) fun h => by rw [List.mem_singleton.mp h]; exact .inl rfl
  have l4 : ¬ sizeOk g (ns ++ [0]).length := fun z => by
    have := z.1
    rw [List.length_append, List.length_singleton] at this
    omega
  refine ⟨rfl, wz, _, (g : Int), rfl, z16.fh _ _ fwz, by rw [List.length_append, List.length_singleton]; omega, z16.2.2, fun r4 H17 x17 T17 hr4 => ?_⟩
  rw [((⟨wGood_cells g1 g8 b4 l4, wOpen_cells g1 g8 b4 l4⟩ : _ ∧ _)).1, ((⟨wGood_cells g1 g8 b4 l4, wOpen_cells g1 g8 b4 l4⟩ : _ ∧ _)).2] at hr4
  have z17 := z16.ext x17 T17
  walk_at "r"
  refine ⟨sz (by simp), fun w17a hw17a => ?_⟩
  generalize eX : upd H17 _ _ = H18
  obtain ⟨F18, z18, ff18, e18, fw17a, -⟩ := z17.frz hw17a eX notbl_lst
  clear eX
  replace fy := ff18 _ _ fy
  replace fus := ff18 _ _ fus
  replace fw3a := ff18 _ _ fw3a
  replace fw3b := ff18 _ _ fw3b
  replace fem := ff18 _ _ fem
  replace fw7a := ff18 _ _ fw7a
  replace fw7b := ff18 _ _ fw7b
  replace fct := ff18 _ _ fct
  replace fw12a := ff18 _ _ fw12a
  replace fw12b := ff18 _ _ fw12b
  replace fo0 := ff18 _ _ fo0
  replace fwz := ff18 _ _ fwz
  replace fF := fF.trans ff18
  walk_at "r"
  refine s_rep (z18.fh _ _ fw17a) (by decide) (by decide) fun w17b hw17b => ?_
  generalize eX : upd H18 _ _ = H19
  obtain ⟨F19, z19, ff19, e19, fw17b, -⟩ := z18.frz hw17b eX notbl_lst
  clear eX
  replace fy := ff19 _ _ fy
  replace fus := ff19 _ _ fus
  replace fw3a := ff19 _ _ fw3a
  replace fw3b := ff19 _ _ fw3b
  replace fem := ff19 _ _ fem
  replace fw7a := ff19 _ _ fw7a
  replace fw7b := ff19 _ _ fw7b
  replace fct := ff19 _ _ fct
  replace fw12a := ff19 _ _ fw12a
  replace fw12b := ff19 _ _ fw12b
  replace fo0 := ff19 _ _ fo0
  replace fwz := ff19 _ _ fwz
  replace fw17a := ff19 _ _ fw17a
  replace fF := fF.trans ff19
  refine s_neFl (vs := [.str "cells", .str "cells"]) (SqL.of (e19 _ _ (e18 _ _ hr4))) (SqL.of (z19.fh _ _ fw17b)) (by decide +kernel) ?_
  walk_at "r"
  walk_at "r"
  refine ⟨sz (by simp), fun q1a hq1a => ?_⟩
  generalize eX : upd H19 _ _ = H20
  obtain ⟨F20, z20, ff20, e20, fq1a, -⟩ := z19.frz hq1a eX notbl_lst
  clear eX
  replace fy := ff20 _ _ fy
  replace fus := ff20 _ _ fus
  replace fw3a := ff20 _ _ fw3a
  replace fw3b := ff20 _ _ fw3b
  replace fem := ff20 _ _ fem
  replace fw7a := ff20 _ _ fw7a
  replace fw7b := ff20 _ _ fw7b
  replace fct := ff20 _ _ fct
  replace fw12a := ff20 _ _ fw12a
  replace fw12b := ff20 _ _ fw12b
  replace fo0 := ff20 _ _ fo0
  replace fwz := ff20 _ _ fwz
  replace fw17a := ff20 _ _ fw17a
  replace fw17b := ff20 _ _ fw17b
  replace fF := fF.trans ff20
  walk_at "r"
  refine s_rep (z20.fh _ _ fq1a) (by decide) (by decide) fun q1 hq1 => ?_
  generalize eX : upd H20 _ _ = H21
  obtain ⟨F21, z21, ff21, e21, fq1, -⟩ := z20.frz hq1 eX notbl_lst
  clear eX
  replace fy := ff21 _ _ fy
  replace fus := ff21 _ _ fus
  replace fw3a := ff21 _ _ fw3a
  replace fw3b := ff21 _ _ fw3b
  replace fem := ff21 _ _ fem
  replace fw7a := ff21 _ _ fw7a
  replace fw7b := ff21 _ _ fw7b
  replace fct := ff21 _ _ fct
  replace fw12a := ff21 _ _ fw12a
  replace fw12b := ff21 _ _ fw12b
  replace fo0 := ff21 _ _ fo0
  replace fwz := ff21 _ _ fwz
  replace fw17a := ff21 _ _ fw17a
  replace fw17b := ff21 _ _ fw17b
  replace fq1a := ff21 _ _ fq1a
  replace fF := fF.trans ff21
  walk_at "r"
  refine ⟨sz (by simp), fun q2a hq2a => ?_⟩
  generalize eX : upd H21 _ _ = H22
  obtain ⟨F22, z22, ff22, e22, fq2a, -⟩ := z21.frz hq2a eX notbl_lst
  clear eX
  replace fy := ff22 _ _ fy
  replace fus := ff22 _ _ fus
  replace fw3a := ff22 _ _ fw3a
  replace fw3b := ff22 _ _ fw3b
  replace fem := ff22 _ _ fem
  replace fw7a := ff22 _ _ fw7a
  replace fw7b := ff22 _ _ fw7b
  replace fct := ff22 _ _ fct
  replace fw12a := ff22 _ _ fw12a
  replace fw12b := ff22 _ _ fw12b
  replace fo0 := ff22 _ _ fo0
  replace fwz := ff22 _ _ fwz
  replace fw17a := ff22 _ _ fw17a
  replace fw17b := ff22 _ _ fw17b
  replace fq1a := ff22 _ _ fq1a
  replace fq1 := ff22 _ _ fq1
  replace fF := fF.trans ff22
  walk_at "r"
  refine s_rep (z22.fh _ _ fq2a) (by decide) (by decide) fun q2 hq2 => ?_
  generalize eX : upd H22 _ _ = H23
  obtain ⟨F23, z23, ff23, e23, fq2, -⟩ := z22.frz hq2 eX notbl_lst
  clear eX
  replace fy := ff23 _ _ fy
  replace fus := ff23 _ _ fus
  replace fw3a := ff23 _ _ fw3a
  replace fw3b := ff23 _ _ fw3b
  replace fem := ff23 _ _ fem
  replace fw7a := ff23 _ _ fw7a
  replace fw7b := ff23 _ _ fw7b
  replace fct := ff23 _ _ fct
  replace fw12a := ff23 _ _ fw12a
  replace fw12b := ff23 _ _ fw12b
  replace fo0 := ff23 _ _ fo0
  replace fwz := ff23 _ _ fwz
  replace fw17a := ff23 _ _ fw17a
  replace fw17b := ff23 _ _ fw17b
  replace fq1a := ff23 _ _ fq1a
  replace fq1 := ff23 _ _ fq1
  replace fq2a := ff23 _ _ fq2a
  replace fF := fF.trans ff23
  refine ⟨rfl, q2, List.replicate 48 0, rfl, SqL.of (by rw [z23.fh _ _ fq2]; rfl), by simp, fun x hx => .inl (List.eq_of_mem_replicate hx), fun c8 H24 e24 c80 hc8 => ?_⟩
  have fq1' := (z23.of e24).fh _ _ fq1
  refine ⟨_, _, _, _, rfl, rfl, fq1', hc8, sz (by rw [List.length_replicate, List.length_map, fixL_len]; decide), fun nt hnt => ?_⟩
  rw [show List.replicate (48 : Int).toNat (V.int 0) ++ (fixL 8 (chk (List.replicate 48 0))).map V.int = (cellC (List.replicate 48 0)).map V.int by rw [cellC, List.map_append, List.map_replicate]; rfl]
  have z24 := z23.of e24
  generalize eX : upd H24 _ _ = H25
  obtain ⟨F25, z25, ff25, e25, fnt, -⟩ := z24.frz hnt eX notbl_lst
  clear eX
  replace fy := ff25 _ _ fy
  replace fus := ff25 _ _ fus
  replace fw3a := ff25 _ _ fw3a
  replace fw3b := ff25 _ _ fw3b
  replace fem := ff25 _ _ fem
  replace fw7a := ff25 _ _ fw7a
  replace fw7b := ff25 _ _ fw7b
  replace fct := ff25 _ _ fct
  replace fw12a := ff25 _ _ fw12a
  replace fw12b := ff25 _ _ fw12b
  replace fo0 := ff25 _ _ fo0
  replace fwz := ff25 _ _ fwz
  replace fw17a := ff25 _ _ fw17a
  replace fw17b := ff25 _ _ fw17b
  replace fq1a := ff25 _ _ fq1a
  replace fq1 := ff25 _ _ fq1
  replace fq2a := ff25 _ _ fq2a
  replace fq2 := ff25 _ _ fq2
  replace fF := fF.trans ff25
  walk_at "r"
  refine ⟨rfl, _, p, _, rfl, z25.1, by decide, by decide, fun r5 H26 s26 t26 r50 r51 => ?_⟩
  have z26 := z25.draw s26 t26
  obtain ⟨mn, hmn⟩ : ∃ mn : Nat, 1 + r5 = (mn : Int) := ⟨(1 + r5).toNat, by omega⟩
  walk_at "r"
  rw [hmn]
  refine ⟨sz (by simp), fun tp htp => ?_⟩
  generalize eX : upd H26 _ _ = H27
  obtain ⟨F27, z27, ff27, e27, ftp, -⟩ := z26.frz htp eX notbl_tup
  clear eX
  replace fy := ff27 _ _ fy
  replace fus := ff27 _ _ fus
  replace fw3a := ff27 _ _ fw3a
  replace fw3b := ff27 _ _ fw3b
  replace fem := ff27 _ _ fem
  replace fw7a := ff27 _ _ fw7a
  replace fw7b := ff27 _ _ fw7b
  replace fct := ff27 _ _ fct
  replace fw12a := ff27 _ _ fw12a
  replace fw12b := ff27 _ _ fw12b
  replace fo0 := ff27 _ _ fo0
  replace fwz := ff27 _ _ fwz
  replace fw17a := ff27 _ _ fw17a
  replace fw17b := ff27 _ _ fw17b
  replace fq1a := ff27 _ _ fq1a
  replace fq1 := ff27 _ _ fq1
  replace fq2a := ff27 _ _ fq2a
  replace fq2 := ff27 _ _ fq2
  replace fnt := ff27 _ _ fnt
  replace fF := fF.trans ff27
  walk_at "r"
  refine s_gtup (SqT.of (z27.fh _ _ ftp)) rfl ?_
  walk_at "r"
  refine s_iteC ?_
  have h48 : isBits (List.replicate 48 (0 : Int)) := fun x hx => .inl (List.eq_of_mem_replicate hx)
  have nB : isBits (List.replicate mn (cellC (List.replicate 48 0))).flatten := flat_bits _ fun c hc => by rw [List.eq_of_mem_replicate hc]; exact cellC_bits h48
  have nL : (List.replicate mn (cellC (List.replicate 48 0))).flatten.length = mn * 56 := by
    rw [flat_len (k := 56) _ fun c hc => by rw [List.eq_of_mem_replicate hc]; exact cellC_len (by simp), List.length_replicate]
  have hdw : (if decide ((mn : Int) % ((g : Int) + 1) = 1) = true then ("cells" : Str) else "let") = wGood (g : Int) (List.replicate mn (cellC (List.replicate 48 0))).flatten := by
    by_cases c : mn % (g + 1) = 1
    · rw [wGood_cells g1 g8 nB (fun z => z.2.2 (by rw [nL, Nat.mul_div_cancel _ (by decide)]; exact c)), if_pos (decide_eq_true (by exact_mod_cast c))]
    · rw [wGood_let g1 g8 nB ⟨by rw [nL]; omega, by rw [nL]; omega, by rw [nL, Nat.mul_div_cancel _ (by decide)]; exact c⟩, if_neg (by simp; exact fun z => c (by exact_mod_cast z))]
  rw [hdw]
  walk_at "r"
  refine lamQ fun Q' hQ => ?_
  refine s_lam z27.2.2 fun H28 x28 T28 => ?_
  have z28 := z27.ext x28 T28
  show tCall _ _ _ _ _ _ _
  walk_at "r"
  refine ⟨_, _, _, rfl, rfl, z28.fh _ _ fnt, by omega, by omega, Nat.le_trans (m := 100000) (by rw [List.length_map, cellC_len (by simp), Int.toNat_natCast]; omega) (by decide), fun nm hnm => ?_⟩
  rw [Int.toNat_natCast, rep_flat]
  generalize eX : upd H28 _ _ = H29
  obtain ⟨F29, z29, ff29, e29, fnm, -⟩ := z28.frz hnm eX notbl_lst
  clear eX
  replace fy := ff29 _ _ fy
  replace fus := ff29 _ _ fus
  replace fw3a := ff29 _ _ fw3a
  replace fw3b := ff29 _ _ fw3b
  replace fem := ff29 _ _ fem
  replace fw7a := ff29 _ _ fw7a
  replace fw7b := ff29 _ _ fw7b
  replace fct := ff29 _ _ fct
  replace fw12a := ff29 _ _ fw12a
  replace fw12b := ff29 _ _ fw12b
  replace fo0 := ff29 _ _ fo0
  replace fwz := ff29 _ _ fwz
  replace fw17a := ff29 _ _ fw17a
  replace fw17b := ff29 _ _ fw17b
  replace fq1a := ff29 _ _ fq1a
  replace fq1 := ff29 _ _ fq1
  replace fq2a := ff29 _ _ fq2a
  replace fq2 := ff29 _ _ fq2
  replace fnt := ff29 _ _ fnt
  replace fF := fF.trans ff29
  walk_at "r"
  refine good_word (SqL.of (z29.fh _ _ fnm)) (by rw [nL]; omega) fun H30 e30 => ?_
  have z30 := z29.of e30
  subst hQ
  walk_at "r"
  refine ifn (fun _ => ?_) (fun z => absurd rfl z)
  walk_at "r"
  refine s_slL (SqL.of (z30.fh _ _ fy)) fun s1 hs1 => ?_
  rw [show (some (9 : Int)) = some ((9 : Nat) : Int) from rfl, cutV_to, ← List.map_take]
  generalize eX : upd H30 _ _ = H31
  obtain ⟨F31, z31, ff31, e31, fs1, -⟩ := z30.frz hs1 eX notbl_lst
  clear eX
  replace fy := ff31 _ _ fy
  replace fus := ff31 _ _ fus
  replace fw3a := ff31 _ _ fw3a
  replace fw3b := ff31 _ _ fw3b
  replace fem := ff31 _ _ fem
  replace fw7a := ff31 _ _ fw7a
  replace fw7b := ff31 _ _ fw7b
  replace fct := ff31 _ _ fct
  replace fw12a := ff31 _ _ fw12a
  replace fw12b := ff31 _ _ fw12b
  replace fo0 := ff31 _ _ fo0
  replace fwz := ff31 _ _ fwz
  replace fw17a := ff31 _ _ fw17a
  replace fw17b := ff31 _ _ fw17b
  replace fq1a := ff31 _ _ fq1a
  replace fq1 := ff31 _ _ fq1
  replace fq2a := ff31 _ _ fq2a
  replace fq2 := ff31 _ _ fq2
  replace fnt := ff31 _ _ fnt
  replace fnm := ff31 _ _ fnm
  replace fF := fF.trans ff31
  walk_at "r"
  refine ⟨sz (by simp), fun l2 hl2 => ?_⟩
  generalize eX : upd H31 _ _ = H32
  obtain ⟨F32, z32, ff32, e32, fl2, -⟩ := z31.frz hl2 eX notbl_lst
  clear eX
  replace fy := ff32 _ _ fy
  replace fus := ff32 _ _ fus
  replace fw3a := ff32 _ _ fw3a
  replace fw3b := ff32 _ _ fw3b
  replace fem := ff32 _ _ fem
  replace fw7a := ff32 _ _ fw7a
  replace fw7b := ff32 _ _ fw7b
  replace fct := ff32 _ _ fct
  replace fw12a := ff32 _ _ fw12a
  replace fw12b := ff32 _ _ fw12b
  replace fo0 := ff32 _ _ fo0
  replace fwz := ff32 _ _ fwz
  replace fw17a := ff32 _ _ fw17a
  replace fw17b := ff32 _ _ fw17b
  replace fq1a := ff32 _ _ fq1a
  replace fq1 := ff32 _ _ fq1
  replace fq2a := ff32 _ _ fq2a
  replace fq2 := ff32 _ _ fq2
  replace fnt := ff32 _ _ fnt
  replace fnm := ff32 _ _ fnm
  replace fs1 := ff32 _ _ fs1
  replace fF := fF.trans ff32
  walk_at "r"
  refine ⟨_, _, _, _, rfl, rfl, z32.fh _ _ fs1, z32.fh _ _ fl2, sz (by rw [List.length_map, List.length_take, List.length_singleton]; omega), fun s2 hs2 => ?_⟩
  rw [show (ns.take 9).map V.int ++ [V.int 2] = (ns.take 9 ++ [(2 : Int)]).map V.int by simp]
  generalize eX : upd H32 _ _ = H33
  obtain ⟨F33, z33, ff33, e33, fs2, -⟩ := z32.frz hs2 eX notbl_lst
  clear eX
  replace fy := ff33 _ _ fy
  replace fus := ff33 _ _ fus
  replace fw3a := ff33 _ _ fw3a
  replace fw3b := ff33 _ _ fw3b
  replace fem := ff33 _ _ fem
  replace fw7a := ff33 _ _ fw7a
  replace fw7b := ff33 _ _ fw7b
  replace fct := ff33 _ _ fct
  replace fw12a := ff33 _ _ fw12a
  replace fw12b := ff33 _ _ fw12b
  replace fo0 := ff33 _ _ fo0
  replace fwz := ff33 _ _ fwz
  replace fw17a := ff33 _ _ fw17a
  replace fw17b := ff33 _ _ fw17b
  replace fq1a := ff33 _ _ fq1a
  replace fq1 := ff33 _ _ fq1
  replace fq2a := ff33 _ _ fq2a
  replace fq2 := ff33 _ _ fq2
  replace fnt := ff33 _ _ fnt
  replace fnm := ff33 _ _ fnm
  replace fs1 := ff33 _ _ fs1
  replace fl2 := ff33 _ _ fl2
  replace fF := fF.trans ff33
  walk_at "r"
  refine s_slL (SqL.of (z33.fh _ _ fy)) fun s3 hs3 => ?_
  rw [show (some (10 : Int)) = some ((10 : Nat) : Int) from rfl, cutV_from, ← List.map_drop]
  generalize eX : upd H33 _ _ = H34
  obtain ⟨F34, z34, ff34, e34, fs3, -⟩ := z33.frz hs3 eX notbl_lst
  clear eX
  replace fy := ff34 _ _ fy
  replace fus := ff34 _ _ fus
  replace fw3a := ff34 _ _ fw3a
  replace fw3b := ff34 _ _ fw3b
  replace fem := ff34 _ _ fem
  replace fw7a := ff34 _ _ fw7a
  replace fw7b := ff34 _ _ fw7b
  replace fct := ff34 _ _ fct
  replace fw12a := ff34 _ _ fw12a
  replace fw12b := ff34 _ _ fw12b
  replace fo0 := ff34 _ _ fo0
  replace fwz := ff34 _ _ fwz
  replace fw17a := ff34 _ _ fw17a
  replace fw17b := ff34 _ _ fw17b
  replace fq1a := ff34 _ _ fq1a
  replace fq1 := ff34 _ _ fq1
  replace fq2a := ff34 _ _ fq2a
  replace fq2 := ff34 _ _ fq2
  replace fnt := ff34 _ _ fnt
  replace fnm := ff34 _ _ fnm
  replace fs1 := ff34 _ _ fs1
  replace fl2 := ff34 _ _ fl2
  replace fs2 := ff34 _ _ fs2
  replace fF := fF.trans ff34
  walk_at "r"
  refine ⟨_, _, _, _, rfl, rfl, z34.fh _ _ fs2, z34.fh _ _ fs3, sz (by rw [List.length_map, List.length_map, List.length_append, List.length_take, List.length_drop, List.length_singleton]; omega), fun s4 hs4 => ?_⟩
  rw [show (ns.take 9 ++ [(2 : Int)]).map V.int ++ (ns.drop 10).map V.int = (ns.take 9 ++ [(2 : Int)] ++ ns.drop 10).map V.int by simp]
  generalize eX : upd H34 _ _ = H35
  obtain ⟨F35, z35, ff35, e35, fs4, -⟩ := z34.frz hs4 eX notbl_lst
  clear eX
  replace fy := ff35 _ _ fy
  replace fus := ff35 _ _ fus
  replace fw3a := ff35 _ _ fw3a
  replace fw3b := ff35 _ _ fw3b
  replace fem := ff35 _ _ fem
  replace fw7a := ff35 _ _ fw7a
  replace fw7b := ff35 _ _ fw7b
  replace fct := ff35 _ _ fct
  replace fw12a := ff35 _ _ fw12a
  replace fw12b := ff35 _ _ fw12b
  replace fo0 := ff35 _ _ fo0
  replace fwz := ff35 _ _ fwz
  replace fw17a := ff35 _ _ fw17a
  replace fw17b := ff35 _ _ fw17b
  replace fq1a := ff35 _ _ fq1a
  replace fq1 := ff35 _ _ fq1
  replace fq2a := ff35 _ _ fq2a
  replace fq2 := ff35 _ _ fq2
  replace fnt := ff35 _ _ fnt
  replace fnm := ff35 _ _ fnm
  replace fs1 := ff35 _ _ fs1
  replace fl2 := ff35 _ _ fl2
  replace fs2 := ff35 _ _ fs2
  replace fs3 := ff35 _ _ fs3
  replace fF := fF.trans ff35
  walk_at "r"
  refine ⟨sz (by simp), fun l1 hl1 => ?_⟩
  generalize eX : upd H35 _ _ = H36
  obtain ⟨F36, z36, ff36, e36, fl1, -⟩ := z35.frz hl1 eX notbl_lst
  clear eX
  replace fy := ff36 _ _ fy
  replace fus := ff36 _ _ fus
  replace fw3a := ff36 _ _ fw3a
  replace fw3b := ff36 _ _ fw3b
  replace fem := ff36 _ _ fem
  replace fw7a := ff36 _ _ fw7a
  replace fw7b := ff36 _ _ fw7b
  replace fct := ff36 _ _ fct
  replace fw12a := ff36 _ _ fw12a
  replace fw12b := ff36 _ _ fw12b
  replace fo0 := ff36 _ _ fo0
  replace fwz := ff36 _ _ fwz
  replace fw17a := ff36 _ _ fw17a
  replace fw17b := ff36 _ _ fw17b
  replace fq1a := ff36 _ _ fq1a
  replace fq1 := ff36 _ _ fq1
  replace fq2a := ff36 _ _ fq2a
  replace fq2 := ff36 _ _ fq2
  replace fnt := ff36 _ _ fnt
  replace fnm := ff36 _ _ fnm
  replace fs1 := ff36 _ _ fs1
  replace fl2 := ff36 _ _ fl2
  replace fs2 := ff36 _ _ fs2
  replace fs3 := ff36 _ _ fs3
  replace fs4 := ff36 _ _ fs4
  replace fF := fF.trans ff36
  walk_at "r"
  refine ⟨_, _, _, _, rfl, rfl, z36.fh _ _ fs4, z36.fh _ _ fl1, sz (by rw [List.length_map, List.length_append, List.length_append, List.length_take, List.length_drop, List.length_singleton, List.length_singleton]; omega), fun s5 hs5 => ?_⟩
  rw [show (ns.take 9 ++ [(2 : Int)] ++ ns.drop 10).map V.int ++ [V.int 1] = (ns.take 9 ++ [(2 : Int)] ++ ns.drop 10 ++ [(1 : Int)]).map V.int by simp]
  generalize eX : upd H36 _ _ = H37
  obtain ⟨F37, z37, ff37, e37, fs5, -⟩ := z36.frz hs5 eX notbl_lst
  clear eX
  replace fy := ff37 _ _ fy
  replace fus := ff37 _ _ fus
  replace fw3a := ff37 _ _ fw3a
  replace fw3b := ff37 _ _ fw3b
  replace fem := ff37 _ _ fem
  replace fw7a := ff37 _ _ fw7a
  replace fw7b := ff37 _ _ fw7b
  replace fct := ff37 _ _ fct
  replace fw12a := ff37 _ _ fw12a
  replace fw12b := ff37 _ _ fw12b
  replace fo0 := ff37 _ _ fo0
  replace fwz := ff37 _ _ fwz
  replace fw17a := ff37 _ _ fw17a
  replace fw17b := ff37 _ _ fw17b
  replace fq1a := ff37 _ _ fq1a
  replace fq1 := ff37 _ _ fq1
  replace fq2a := ff37 _ _ fq2a
  replace fq2 := ff37 _ _ fq2
  replace fnt := ff37 _ _ fnt
  replace fnm := ff37 _ _ fnm
  replace fs1 := ff37 _ _ fs1
  replace fl2 := ff37 _ _ fl2
  replace fs2 := ff37 _ _ fs2
  replace fs3 := ff37 _ _ fs3
  replace fs4 := ff37 _ _ fs4
  replace fl1 := ff37 _ _ fl1
  replace fF := fF.trans ff37
  walk_at "r"
  have nb6 : (ns.take 9 ++ [(2 : Int)] ++ ns.drop 10 ++ [(1 : Int)]).all goodI = false := by
    rw [List.all_append, List.all_append, List.all_append]
    have : [(2 : Int)].all goodI = false := by decide
    rw [this]; simp
  refine ⟨rfl, s5, _, 0, rfl, z37.fh _ _ fs5, by simp; omega, z37.2.2, fun r6 H38 x38 T38 hr6 => ?_⟩
  rw [(w_bits (g := 0) nb6).1, (w_bits (g := 0) nb6).2] at hr6
  have z38 := z37.ext x38 T38
  walk_at "r"
  refine ⟨sz (by simp), fun w38a hw38a => ?_⟩
  generalize eX : upd H38 _ _ = H39
  obtain ⟨F39, z39, ff39, e39, fw38a, -⟩ := z38.frz hw38a eX notbl_lst
  clear eX
  replace fy := ff39 _ _ fy
  replace fus := ff39 _ _ fus
  replace fw3a := ff39 _ _ fw3a
  replace fw3b := ff39 _ _ fw3b
  replace fem := ff39 _ _ fem
  replace fw7a := ff39 _ _ fw7a
  replace fw7b := ff39 _ _ fw7b
  replace fct := ff39 _ _ fct
  replace fw12a := ff39 _ _ fw12a
  replace fw12b := ff39 _ _ fw12b
  replace fo0 := ff39 _ _ fo0
  replace fwz := ff39 _ _ fwz
  replace fw17a := ff39 _ _ fw17a
  replace fw17b := ff39 _ _ fw17b
  replace fq1a := ff39 _ _ fq1a
  replace fq1 := ff39 _ _ fq1
  replace fq2a := ff39 _ _ fq2a
  replace fq2 := ff39 _ _ fq2
  replace fnt := ff39 _ _ fnt
  replace fnm := ff39 _ _ fnm
  replace fs1 := ff39 _ _ fs1
  replace fl2 := ff39 _ _ fl2
  replace fs2 := ff39 _ _ fs2
  replace fs3 := ff39 _ _ fs3
  replace fs4 := ff39 _ _ fs4
  replace fl1 := ff39 _ _ fl1
  replace fs5 := ff39 _ _ fs5
  replace fF := fF.trans ff39
  walk_at "r"
  refine s_rep (z39.fh _ _ fw38a) (by decide) (by decide) fun w38b hw38b => ?_
  generalize eX : upd H39 _ _ = H40
  obtain ⟨F40, z40, ff40, e40, fw38b, -⟩ := z39.frz hw38b eX notbl_lst
  clear eX
  replace fy := ff40 _ _ fy
  replace fus := ff40 _ _ fus
  replace fw3a := ff40 _ _ fw3a
  replace fw3b := ff40 _ _ fw3b
  replace fem := ff40 _ _ fem
  replace fw7a := ff40 _ _ fw7a
  replace fw7b := ff40 _ _ fw7b
  replace fct := ff40 _ _ fct
  replace fw12a := ff40 _ _ fw12a
  replace fw12b := ff40 _ _ fw12b
  replace fo0 := ff40 _ _ fo0
  replace fwz := ff40 _ _ fwz
  replace fw17a := ff40 _ _ fw17a
  replace fw17b := ff40 _ _ fw17b
  replace fq1a := ff40 _ _ fq1a
  replace fq1 := ff40 _ _ fq1
  replace fq2a := ff40 _ _ fq2a
  replace fq2 := ff40 _ _ fq2
  replace fnt := ff40 _ _ fnt
  replace fnm := ff40 _ _ fnm
  replace fs1 := ff40 _ _ fs1
  replace fl2 := ff40 _ _ fl2
  replace fs2 := ff40 _ _ fs2
  replace fs3 := ff40 _ _ fs3
  replace fs4 := ff40 _ _ fs4
  replace fl1 := ff40 _ _ fl1
  replace fs5 := ff40 _ _ fs5
  replace fw38a := ff40 _ _ fw38a
  replace fF := fF.trans ff40
  refine s_neFl (vs := [.str "bits", .str "bits"]) (SqL.of (e40 _ _ (e39 _ _ hr6))) (SqL.of (z40.fh _ _ fw38b)) (by decide +kernel) ?_
  walk_at "r"
  walk_at "r"
  refine ⟨sz (by simp), fun m1 hm1 => ?_⟩
  generalize eX : upd H40 _ _ = H41
  obtain ⟨F41, z41, ff41, e41, fm1, -⟩ := z40.frz hm1 eX notbl_lst
  clear eX
  replace fy := ff41 _ _ fy
  replace fus := ff41 _ _ fus
  replace fw3a := ff41 _ _ fw3a
  replace fw3b := ff41 _ _ fw3b
  replace fem := ff41 _ _ fem
  replace fw7a := ff41 _ _ fw7a
  replace fw7b := ff41 _ _ fw7b
  replace fct := ff41 _ _ fct
  replace fw12a := ff41 _ _ fw12a
  replace fw12b := ff41 _ _ fw12b
  replace fo0 := ff41 _ _ fo0
  replace fwz := ff41 _ _ fwz
  replace fw17a := ff41 _ _ fw17a
  replace fw17b := ff41 _ _ fw17b
  replace fq1a := ff41 _ _ fq1a
  replace fq1 := ff41 _ _ fq1
  replace fq2a := ff41 _ _ fq2a
  replace fq2 := ff41 _ _ fq2
  replace fnt := ff41 _ _ fnt
  replace fnm := ff41 _ _ fnm
  replace fs1 := ff41 _ _ fs1
  replace fl2 := ff41 _ _ fl2
  replace fs2 := ff41 _ _ fs2
  replace fs3 := ff41 _ _ fs3
  replace fs4 := ff41 _ _ fs4
  replace fl1 := ff41 _ _ fl1
  replace fs5 := ff41 _ _ fs5
  replace fw38a := ff41 _ _ fw38a
  replace fw38b := ff41 _ _ fw38b
  replace fF := fF.trans ff41
  walk_at "r"
  refine ⟨_, _, _, _, rfl, rfl, z41.fh _ _ fy, z41.fh _ _ fm1, sz (by rw [List.length_map, List.length_singleton]; omega), fun s7 hs7 => ?_⟩
  rw [show ns.map V.int ++ [V.int 1] = (ns ++ [1]).map V.int by simp]
  generalize eX : upd H41 _ _ = H42
  obtain ⟨F42, z42, ff42, e42, fs7, -⟩ := z41.frz hs7 eX notbl_lst
  clear eX
  replace fy := ff42 _ _ fy
  replace fus := ff42 _ _ fus
  replace fw3a := ff42 _ _ fw3a
  replace fw3b := ff42 _ _ fw3b
  replace fem := ff42 _ _ fem
  replace fw7a := ff42 _ _ fw7a
  replace fw7b := ff42 _ _ fw7b
  replace fct := ff42 _ _ fct
  replace fw12a := ff42 _ _ fw12a
  replace fw12b := ff42 _ _ fw12b
  replace fo0 := ff42 _ _ fo0
  replace fwz := ff42 _ _ fwz
  replace fw17a := ff42 _ _ fw17a
  replace fw17b := ff42 _ _ fw17b
  replace fq1a := ff42 _ _ fq1a
  replace fq1 := ff42 _ _ fq1
  replace fq2a := ff42 _ _ fq2a
  replace fq2 := ff42 _ _ fq2
  replace fnt := ff42 _ _ fnt
  replace fnm := ff42 _ _ fnm
  replace fs1 := ff42 _ _ fs1
  replace fl2 := ff42 _ _ fl2
  replace fs2 := ff42 _ _ fs2
  replace fs3 := ff42 _ _ fs3
  replace fs4 := ff42 _ _ fs4
  replace fl1 := ff42 _ _ fl1
  replace fs5 := ff42 _ _ fs5
  replace fw38a := ff42 _ _ fw38a
  replace fw38b := ff42 _ _ fw38b
  replace fm1 := ff42 _ _ fm1
  replace fF := fF.trans ff42
  walk_at "r"
  refine ⟨sz (by simp), fun m2 hm2 => ?_⟩
  generalize eX : upd H42 _ _ = H43
  obtain ⟨F43, z43, ff43, e43, fm2, -⟩ := z42.frz hm2 eX notbl_lst
  clear eX
  replace fy := ff43 _ _ fy
  replace fus := ff43 _ _ fus
  replace fw3a := ff43 _ _ fw3a
  replace fw3b := ff43 _ _ fw3b
  replace fem := ff43 _ _ fem
  replace fw7a := ff43 _ _ fw7a
  replace fw7b := ff43 _ _ fw7b
  replace fct := ff43 _ _ fct
  replace fw12a := ff43 _ _ fw12a
  replace fw12b := ff43 _ _ fw12b
  replace fo0 := ff43 _ _ fo0
  replace fwz := ff43 _ _ fwz
  replace fw17a := ff43 _ _ fw17a
  replace fw17b := ff43 _ _ fw17b
  replace fq1a := ff43 _ _ fq1a
  replace fq1 := ff43 _ _ fq1
  replace fq2a := ff43 _ _ fq2a
  replace fq2 := ff43 _ _ fq2
  replace fnt := ff43 _ _ fnt
  replace fnm := ff43 _ _ fnm
  replace fs1 := ff43 _ _ fs1
  replace fl2 := ff43 _ _ fl2
  replace fs2 := ff43 _ _ fs2
  replace fs3 := ff43 _ _ fs3
  replace fs4 := ff43 _ _ fs4
  replace fl1 := ff43 _ _ fl1
  replace fs5 := ff43 _ _ fs5
  replace fw38a := ff43 _ _ fw38a
  replace fw38b := ff43 _ _ fw38b
  replace fm1 := ff43 _ _ fm1
  replace fs7 := ff43 _ _ fs7
  replace fF := fF.trans ff43
  walk_at "r"
  refine ⟨rfl, _, p, m2, [0, 9], rfl, z43.1, SqL.of fm2, by simp, by simp, fun r7 H44 s44 t44 hr7 => ?_⟩
  have z44 := z43.draw s44 t44
  walk_at "r"
  have g7 : ¬ (1 ≤ r7 ∧ r7 ≤ 8) := by
    simp at hr7
    rcases hr7 with rfl | rfl <;> decide
  have b7 : isBits (ns ++ [1]) := fun x hx => (List.mem_append.mp hx).elim (wB x) fun h => by rw [List.mem_singleton.mp h]; exact .inr rfl
  refine ⟨rfl, s7, _, r7, rfl, z44.fh _ _ fs7, by rw [List.length_append, List.length_singleton]; omega, z44.2.2, fun r8 H45 x45 T45 hr8 => ?_⟩
  rw [(w_outside b7 g7).1, (w_outside b7 g7).2] at hr8
  have z45 := z44.ext x45 T45
  walk_at "r"
  refine ⟨sz (by simp), fun e1 he1 => ?_⟩
  generalize eX : upd H45 _ _ = H46
  obtain ⟨F46, z46, ff46, e46, fe1, -⟩ := z45.frz he1 eX notbl_lst
  clear eX
  replace fy := ff46 _ _ fy
  replace fus := ff46 _ _ fus
  replace fw3a := ff46 _ _ fw3a
  replace fw3b := ff46 _ _ fw3b
  replace fem := ff46 _ _ fem
  replace fw7a := ff46 _ _ fw7a
  replace fw7b := ff46 _ _ fw7b
  replace fct := ff46 _ _ fct
  replace fw12a := ff46 _ _ fw12a
  replace fw12b := ff46 _ _ fw12b
  replace fo0 := ff46 _ _ fo0
  replace fwz := ff46 _ _ fwz
  replace fw17a := ff46 _ _ fw17a
  replace fw17b := ff46 _ _ fw17b
  replace fq1a := ff46 _ _ fq1a
  replace fq1 := ff46 _ _ fq1
  replace fq2a := ff46 _ _ fq2a
  replace fq2 := ff46 _ _ fq2
  replace fnt := ff46 _ _ fnt
  replace fnm := ff46 _ _ fnm
  replace fs1 := ff46 _ _ fs1
  replace fl2 := ff46 _ _ fl2
  replace fs2 := ff46 _ _ fs2
  replace fs3 := ff46 _ _ fs3
  replace fs4 := ff46 _ _ fs4
  replace fl1 := ff46 _ _ fl1
  replace fs5 := ff46 _ _ fs5
  replace fw38a := ff46 _ _ fw38a
  replace fw38b := ff46 _ _ fw38b
  replace fm1 := ff46 _ _ fm1
  replace fs7 := ff46 _ _ fs7
  replace fm2 := ff46 _ _ fm2
  replace fF := fF.trans ff46
  walk_at "r"
  refine s_rep (z46.fh _ _ fe1) (by decide) (by decide) fun e2 he2 => ?_
  generalize eX : upd H46 _ _ = H47
  obtain ⟨F47, z47, ff47, e47, fe2, -⟩ := z46.frz he2 eX notbl_lst
  clear eX
  replace fy := ff47 _ _ fy
  replace fus := ff47 _ _ fus
  replace fw3a := ff47 _ _ fw3a
  replace fw3b := ff47 _ _ fw3b
  replace fem := ff47 _ _ fem
  replace fw7a := ff47 _ _ fw7a
  replace fw7b := ff47 _ _ fw7b
  replace fct := ff47 _ _ fct
  replace fw12a := ff47 _ _ fw12a
  replace fw12b := ff47 _ _ fw12b
  replace fo0 := ff47 _ _ fo0
  replace fwz := ff47 _ _ fwz
  replace fw17a := ff47 _ _ fw17a
  replace fw17b := ff47 _ _ fw17b
  replace fq1a := ff47 _ _ fq1a
  replace fq1 := ff47 _ _ fq1
  replace fq2a := ff47 _ _ fq2a
  replace fq2 := ff47 _ _ fq2
  replace fnt := ff47 _ _ fnt
  replace fnm := ff47 _ _ fnm
  replace fs1 := ff47 _ _ fs1
  replace fl2 := ff47 _ _ fl2
  replace fs2 := ff47 _ _ fs2
  replace fs3 := ff47 _ _ fs3
  replace fs4 := ff47 _ _ fs4
  replace fl1 := ff47 _ _ fl1
  replace fs5 := ff47 _ _ fs5
  replace fw38a := ff47 _ _ fw38a
  replace fw38b := ff47 _ _ fw38b
  replace fm1 := ff47 _ _ fm1
  replace fs7 := ff47 _ _ fs7
  replace fm2 := ff47 _ _ fm2
  replace fe1 := ff47 _ _ fe1
  replace fF := fF.trans ff47
  refine s_eqFl (vs := [.str "outside", .str "outside"]) (SqL.of (e47 _ _ (e46 _ _ hr8))) (SqL.of (z47.fh _ _ fe2)) (by decide +kernel) ?_
  exact q _ (z47.1.weak fF) z47.2.2
abbrev s_law_counts_right : Stmt := topS 48
theorem sc_law_counts_right : FnScope ["_law_source", "_law_bits_here", "_law_loads_here", "_law_group", "_law_plain", "_law_many", "_law_fits", "_law_number", "_law_due", "_law_load"] ["_law_source", "_law_bits_here", "_law_loads_here", "_law_group"] (defScope s_law_counts_right) := ⟨rfl, rfl, rfl, by decide +kernel, rfl, by decide +kernel, by decide +kernel⟩
def Ok_law_counts_right (T : Tbs) (P : Program) (w : World) (K : PySem.W.Frag) (mg : Str → Option Value) (base : Heap) : Prop := ∃ fA fd, Fn P w K mg base (L2.CX P w) 9 "_law_counts_right" s_law_counts_right fA fd ["_law_source", "_law_bits_here", "_law_loads_here", "_law_group"] (sp_law_counts_right T K mg)
theorem okx_law_counts_right (Z : Zs K mg) {fA : Addr} {fd : FuncData} (F : Fun K "_law_counts_right" "_law_counts_right" s_law_counts_right fA fd) (m : mg "_law_counts_right" = some (.ref fA)) {T : Tbs} (C_law_count : Ok_law_count P w K mg base) (C_law_opened : Ok_law_opened T P w K mg base) (C_law_counted : Ok_law_counted P w K mg base) : Fn P w K mg base (L2.CX P w) 9 "_law_counts_right" s_law_counts_right fA fd ["_law_source", "_law_bits_here", "_law_loads_here", "_law_group"] (sp_law_counts_right T K mg) := by
  obtain ⟨_, _, C_law_count⟩ := C_law_count
  obtain ⟨_, _, C_law_opened⟩ := C_law_opened
  obtain ⟨_, _, C_law_counted⟩ := C_law_counted
  refine ⟨F.okX sc_law_counts_right (fun vs H Q E h => h.1) (fun cdv A outer s H vs Q E hr h => ?_), m, F.kp, F.binds fun _ _ _ _ _ _ us hl => match us, hl with | [_, _, _, _], _ => rfl, F⟩
  have hu64 := hr.units
  obtain ⟨hlen, h⟩ := h
  refine ⟨_, (pss_cons (ps_set (i := 4) sc_law_counts_right.nd rfl (Or.inl rfl) (pe_op op_cat (pe_lst (pa_cons (pe_ix (i_list K rfl) (pv 2) pe_int (fun _ _ => rfl)) pa_nil)) (pe_lc (own := [("_law_load", 9)]) (g := gName 9) (tt := tYes) (by rfl) sc_law_counts_right.nd (pi_list (pe_slice (l_list K rfl) (pv 2) (po_some pe_int) po_none)) (blkOk_by (own := [("_law_load", 9)]) (N := ["_law_source", "_law_bits_here", "_law_loads_here", "_law_group", "_law_plain", "_law_many", "_law_fits", "_law_number", "_law_due", "_law_load"]) (sc := defScope s_law_counts_right) (by decide +kernel)) (fun _ _ _ _ _ => (pg_name (i := 9) sc_law_counts_right.nd rfl (Or.inl rfl))) (fun _ _ _ _ _ => pts_nil) (fun _ _ _ _ _ => (pe_op op_rep (pe_lst (pa_cons pe_int pa_nil)) pe_int)))))
    (pss_cons (ps_set (i := 5) sc_law_counts_right.nd rfl (Or.inr rfl) (pe_callB (c_len K rfl) (by rfl) Z.z_len (by decide +kernel) (pa_cons (pv 2) pa_nil)))
    (pss_cons (ps_setLc (i := 6) (own := [("_law_number", 7)]) (g := gName 7) (tt := _) (by rfl) sc_law_counts_right.nd rfl rfl (sw_true rfl rfl rfl (by decide +kernel)) (pi_range2 rfl Z.z_range (pa_cons (pe_callB (c_max2 rfl) (by rfl) Z.z_max (by decide +kernel) (pa_cons pe_int (pa_cons (pe_op op_sub (pe_op op_mul pe_int (pv 5)) pe_int) pa_nil))) (pa_cons (pe_op op_mul pe_int (pv 5)) pa_nil))) (blkOk_by (own := [("_law_number", 7)]) (N := ["_law_source", "_law_bits_here", "_law_loads_here", "_law_group", "_law_plain", "_law_many", "_law_fits", "_law_number", "_law_due", "_law_load"]) (sc := defScope s_law_counts_right) (by decide +kernel)) (fun _ _ _ _ _ => (pg_name (i := 7) sc_law_counts_right.nd rfl (Or.inl rfl))) (fun _ _ _ _ _ => pts_one (pt_cmpR op_eq (pe_un un_neg (pe_op op_fdiv (pe_un un_neg (pe_op op_add (pv 7) (pe_callB (c_len K rfl) (by rfl) Z.z_len (by decide +kernel) (pa_cons (pe_call C_law_count.G (hr.mono (by decide)) rfl C_law_count.m C_law_count.kp C_law_count.b .nil passL (pa_cons (pv 7) pa_nil)) pa_nil)))) pe_int)) (pv 5) (nomark _))) (fun _ _ _ _ _ => (pv 7)))
    (pss_cons (ps_for (passes_of rfl) rfl (pi_list (pe_lst (pa_cons (pe_tup (pa_cons (pe_ix (i_list K rfl) (pv 6) pe_int (fun _ _ => rfl)) (pa_cons pe_str pa_nil))) (pa_cons (pe_tup (pa_cons (pe_ix (i_list K rfl) (pv 6) (pe_un un_neg pe_int) (fun _ _ => rfl)) (pa_cons pe_str pa_nil))) (pa_cons (pe_tup (pa_cons (pe_op op_add (pe_ix (i_list K rfl) (pv 6) (pe_un un_neg pe_int) (fun _ _ => rfl)) pe_int) (pa_cons pe_str pa_nil))) (pa_cons (pe_tup (pa_cons (pe_op op_sub (pe_ix (i_list K rfl) (pv 6) pe_int (fun _ _ => rfl)) pe_int) (pa_cons pe_str pa_nil))) (pa_cons (pe_tup (pa_cons (pe_op op_pow pe_int pe_int) (pa_cons pe_str pa_nil))) pa_nil))))))) (pg_tup rfl (pgs_cons (pg_name (i := 7) sc_law_counts_right.nd rfl (Or.inl rfl)) (pgs_cons (pg_name (i := 8) sc_law_counts_right.nd rfl (Or.inl rfl)) pgs_nil)))
      (pss_one (ps_if (PW.pt (pw_and (pt_cmpR op_ge (pv 7) pe_int (nomark _)) (pw_and1 (pt_cmpR op_ne (pe_call C_law_opened.G (hr.mono (by decide)) rfl C_law_opened.m C_law_opened.kp C_law_opened.b .nil passL (pa_cons (pe_call C_law_counted.G (hr.mono (by decide)) rfl C_law_counted.m C_law_counted.kp C_law_counted.b .nil passL (pa_cons (pv 4) (pa_cons (pv 7) pa_nil))) (pa_cons (pv 3) pa_nil))) (pv 8) (nomark _)))))
      (pss_one (ps_ret pe_bl))
      pss_nil)))
    (pss_cons (ps_for (passes_of rfl) rfl (pi_list (pe_lst (pa_cons (pe_op op_cat (pe_op op_rep (pe_lst (pa_cons pe_int pa_nil)) pe_int) (pe_op op_rep (pe_lst (pa_cons pe_int pa_nil)) pe_int)) (pa_cons (pe_op op_rep (pe_lst (pa_cons pe_int pa_nil)) pe_int) (pa_cons (pe_op op_cat (pe_call C_law_count.G (hr.mono (by decide)) rfl C_law_count.m C_law_count.kp C_law_count.b .nil passL (pa_cons (pe_op op_add (pe_op op_pow pe_int pe_int) pe_int) pa_nil)) (pe_op op_rep (pe_lst (pa_cons pe_int pa_nil)) pe_int)) pa_nil))))) (pg_name (i := 9) sc_law_counts_right.nd rfl (Or.inl rfl))
      (pss_one (ps_if (pt_cmpR op_ne (pe_call C_law_opened.G (hr.mono (by decide)) rfl C_law_opened.m C_law_opened.kp C_law_opened.b .nil passL (pa_cons (pe_op op_cat (pe_lst (pa_cons (pv 9) pa_nil)) (pe_slice (l_list K rfl) (pv 4) (po_some pe_int) po_none)) (pa_cons (pv 3) pa_nil))) pe_str (nomark _))
      (pss_one (ps_ret pe_bl))
      pss_nil)))
    (pss_one (ps_ret pe_bl))))))), ?_⟩
  obtain ⟨F, p, b, a, bs, g, us, rfl, hs, nT, bB, bl, hb, g1, g8, ha, hR, hT, q⟩ := h
  have zt : ZT _ F H p := ⟨hs, nT, hT⟩
  clear hs nT hT
  have g0 : 0 < g := by omega
  have lds := loads_ok bB (by omega)
  have htl := toldC_length bs
  have hLn := loads_length bs
  have hcs := countL_short bl
  have h0 : 0 < (countL bs.length).length := by
    have := blen_pos (n := bs.length + 1) (by omega)
    rw [countL_length]; omega
  generalize loadsC bs = L at *
  obtain ⟨l0, Lr, rfl⟩ : ∃ l0 Lr, L = l0 :: Lr := by
    cases L with
    | nil => simp at hLn; omega
    | cons x y => exact ⟨x, y, rfl⟩
  obtain ⟨v0, vs', rfl, hv0, hR2⟩ : ∃ v0 vs', us = .ref v0 :: vs' ∧ F v0 = some (.lst (l0.map V.int)) ∧ RL F vs' Lr := by
    cases hR with
    | cons h r => exact ⟨_, _, rfl, h, r⟩
  have hvl := RL.len hR2
  obtain ⟨k, hk⟩ : ∃ k, Lr.length = k := ⟨_, rfl⟩
  have hk9 : k + 1 < 10 := by
    rw [List.length_cons] at hLn
    omega
  walk_at "r"
  refine s_ixL (SqL.of (zt.fh _ _ ha)) (at_of (j := 0) (by decide) rfl) ?_
  walk_at "r"
  refine ⟨sz (by simp), fun z1 hz1 => ?_⟩
  generalize eX : upd H z1 _ = H1
  obtain ⟨F1, zt1, ff1, e1, fz1, -⟩ := zt.frz hz1 eX notbl_lst
  clear eX zt
  replace ha := ff1 _ _ ha
  replace hv0 := ff1 _ _ hv0
  have fF := ff1
  walk_at "r"
  refine s_slL (SqL.of (zt1.fh _ _ ha)) fun z2 hz2 => ?_
  rw [show cutV (V.ref v0 :: vs') (some 1) none = vs' by rw [show (some (1 : Int)) = some ((1 : Nat) : Int) from rfl, cutV_from]; rfl]
  generalize eX : upd H1 z2 _ = H2
  obtain ⟨F2, zt2, ff2, e2, fz2, -⟩ := zt1.frz hz2 eX notbl_lst
  clear eX zt1
  replace ha := ff2 _ _ ha
  replace hv0 := ff2 _ _ hv0
  replace fz1 := ff2 _ _ fz1
  replace fF := fF.trans ff2
  refine ⟨z2, rfl, ⟨_, SqL.of (zt2.fh _ _ fz2)⟩, ?_⟩
  refine lcW (walk_list (xs := vs')) S0 zt2.fh (fun _ z => z.elim) (fun F1 H1 st => SqL.of (st.fh _ _ (st.ff _ _ fz2))) (fun i acc F H => RL F acc (List.replicate i zeroL)) (fun _ _ _ _ _ _ _ _ _ r => r) .nil ?_ ?_
  · rintro i x acc d Fa Ha' Ha hi ⟨rfl, hx⟩ hd nS st f0 e hl rr
    walk_at "r"
    refine ⟨sz (by simp), fun y1 hy1 => ?_⟩
    have s1 := Stp.cell (S := S0) (o := .lst [.int 0]) st.fh hy1
    have h1 : upd Ha y1 (.lst [.int 0]) y1 = some (.lst [.int 0]) := upd_same
    generalize upd Ha y1 _ = Hb at s1 h1 ⊢
    walk_at "r"
    refine s_rep h1 (by decide) (by decide) fun y2 hy2 => ?_
    have s2 := s1.trans (Stp.new (S := S0) (o := .lst (List.replicate (48 : Int).toNat (V.int 0))) s1.fh hy2)
    refine lc_end hd nS st f0 e hl (by omega) s2 ?_
    rw [List.replicate_succ']
    refine RL.snoc (LV.mono s2.ff rr) ?_
    rw [upd_same]; rfl
  · intro d acc Fa Fb Hb st hd f0 ef st1 hl rr
    obtain ⟨zt3, ff3⟩ := zt2.stp st1
    have hd3 : cutT Fb d = some (.lst acc) := cutT_at (by rw [ef]; exact upd_same) notbl_lst
    have rl3 : RL (cutT Fb) acc (List.replicate k zeroL) := by
      rw [hvl, hk] at rr
      refine cut_rl (LV.mono ?_ rr)
      rw [ef]
      exact fun b u e => by rw [upd_ne (ne_of_none e f0)]; exact e
    generalize cutT Fb = F3 at zt3 ff3 hd3 rl3
    replace ha := ff3 _ _ ha
    replace hv0 := ff3 _ _ hv0
    replace fz1 := ff3 _ _ fz1
    replace fF := fF.trans ff3
    clear ef st1 st rr f0 zt2 e1 e2
    have hal := RL.len rl3
    rw [List.length_replicate] at hal
    refine ⟨_, _, _, _, rfl, rfl, zt3.fh _ _ fz1, zt3.fh _ _ hd3, sz (by rw [List.length_singleton]; omega), fun pl hpl => ?_⟩
    generalize eX : upd Hb pl _ = H4
    obtain ⟨F4, zt4, ff4, e4, fpl, -⟩ := zt3.frz hpl eX notbl_lst
    clear eX zt3 e4
    replace ha := ff4 _ _ ha
    have rl4 : RL F4 (.ref v0 :: acc) (l0 :: List.replicate k zeroL) := .cons (ff4 _ _ hv0) (LV.mono ff4 rl3)
    replace fF := fF.trans ff4
    rw [show [V.ref v0] ++ acc = V.ref v0 :: acc from rfl] at fpl
    walk_at "r"
    refine s_len (SqL.of (zt4.fh _ _ ha)) ?_
    rw [List.length_cons, hvl, hk]
    walk_at "r"
    have em : (if 48 * ((k + 1 : Nat) : Int) - 90 > 0 then 48 * ((k + 1 : Nat) : Int) - 90 else 0) = ((48 * (k + 1) - 90 : Nat) : Int) := by split <;> omega
    rw [em]
    refine ⟨_, _, rfl, ⟨by omega, by omega, by omega, by omega⟩, ?_⟩
    refine lcW walk_range S0 zt4.fh (fun _ z => z.elim) (fun _ _ _ => trivial) (fun i acc F H => acc = litP (((List.range i).map fun i => 48 * (k + 1) - 90 + i).filter (fitN (k + 1)))) (fun _ _ _ _ _ _ _ _ _ r => r) rfl ?_ ?_
    · rintro i x acc2 d2 Fa Ha Hb' hi ⟨rfl, rfl⟩ hd2 nS st f0 e hl rr
      obtain ⟨nn, hnn⟩ : ∃ nn, 48 * (k + 1) - 90 + i = nn := ⟨_, rfl⟩
      have hi2 : i < 90 := by omega
      have en : ((48 * (k + 1) - 90 : Nat) : Int) + (i : Int) = (nn : Int) := by omega
      have hrr : ((List.range (i + 1)).map fun i => 48 * (k + 1) - 90 + i).filter (fitN (k + 1)) = ((List.range i).map fun i => 48 * (k + 1) - 90 + i).filter (fitN (k + 1)) ++ [nn].filter (fitN (k + 1)) := by
        rw [List.range_succ, List.map_append, List.filter_append, List.map_singleton, hnn]
      dsimp only
      rw [en]
      walk_at "r"
      refine ⟨rfl, nn, rfl, by omega, fun c H5 e5 c0 hc => ?_⟩
      walk_at "r"
      rw [List.length_map, countL_length]
      have hfit : fitN (k + 1) nn = decide (-(-((nn : Int) + ((blen (nn + 1) - 1 + blen (nn + 1) : Nat) : Int)) / 48) = ((k + 1 : Nat) : Int)) := by
        unfold fitN clen
        exact decide_eq_decide.mpr (by omega)
      refine ifd (fun z => ?_) (fun z => ?_)
      · walk_at "r"
        refine lc_end hd2 nS st f0 e hl (by omega) (.ofSame st.fh e5) ?_
        rw [hrr, rr, List.filter_cons, if_pos (by rw [hfit]; exact decide_eq_true z)]
        simp [litP]
      · refine lc_skip hd2 nS st f0 e hl (.ofSame st.fh e5) ?_
        rw [hrr, rr, List.filter_cons, if_neg (by rw [hfit, decide_eq_false z]; simp)]
        simp [litP]
    · intro d2 acc2 Fa Fb' Hb' st hd2 f0 ef st1 hl rr
      have erg : (((48 : Int) * ((k + 1 : Nat) : Int) - ((48 * (k + 1) - 90 : Nat) : Int))).toNat = 48 * (k + 1) - (48 * (k + 1) - 90) := by omega
      rw [erg] at rr
      have hacc : acc2 = litP (fitsL (k + 1)) := rr
      obtain ⟨zt5, ff5⟩ := zt4.stp st1
      have hd5 : cutT Fb' d2 = some (.lst (litP (fitsL (k + 1)))) := cutT_at (by rw [ef, hacc]; exact upd_same) notbl_lst
      generalize cutT Fb' = F5 at zt5 ff5 hd5
      replace fpl := ff5 _ _ fpl
      replace rl4 := LV.mono ff5 rl4
      replace fF := fF.trans ff5
      clear ef st1 st rr f0 zt4 hacc hl acc2 em
      obtain ⟨fa, fr, fb, hfl, hfb, fit1, fit2, fit3, fit4, fa480, fb480, fit5⟩ := fits_facts (k := k + 1) (by omega) hk9
      have at0 : atI (litP (fitsL (k + 1))) 0 = some (.int (fa : Int)) := at_of (j := 0) (by decide) (by rw [hfl]; rfl)
      have atm : atI (litP (fitsL (k + 1))) (-1) = some (.int (fb : Int)) := by
        obtain ⟨ys, hys⟩ := List.getLast?_eq_some_iff.mp hfb
        rw [hys]
        unfold litP
        rw [List.map_append, List.map_append]
        exact atI_last _ _
      walk_at "r"
      refine s_ixL (SqL.of (zt5.fh _ _ hd5)) at0 ?_
      walk_at "r"
      refine ⟨sz (by simp), fun t1 ht1 => ?_⟩
      generalize eX : upd Hb' _ _ = H6
      obtain ⟨F6, zt6, ff6, e6, ft1, -⟩ := zt5.frz ht1 eX notbl_tup
      clear eX zt5 e6
      replace fpl := ff6 _ _ fpl
      replace hd5 := ff6 _ _ hd5
      replace rl4 := LV.mono ff6 rl4
      replace fF := fF.trans ff6
      walk_at "r"
      refine s_ixL (SqL.of (zt6.fh _ _ hd5)) atm ?_
      walk_at "r"
      refine ⟨sz (by simp), fun t2 ht2 => ?_⟩
      generalize eX : upd H6 _ _ = H7
      obtain ⟨F7, zt7, ff7, e7, ft2, -⟩ := zt6.frz ht2 eX notbl_tup
      clear eX zt6 e7
      replace fpl := ff7 _ _ fpl
      replace hd5 := ff7 _ _ hd5
      replace ft1 := ff7 _ _ ft1
      replace rl4 := LV.mono ff7 rl4
      replace fF := fF.trans ff7
      walk_at "r"
      refine s_ixL (SqL.of (zt7.fh _ _ hd5)) atm ?_
      walk_at "r"
      refine ⟨sz (by simp), fun t3 ht3 => ?_⟩
      generalize eX : upd H7 _ _ = H8
      obtain ⟨F8, zt8, ff8, e8, ft3, -⟩ := zt7.frz ht3 eX notbl_tup
      clear eX zt7 e8
      replace fpl := ff8 _ _ fpl
      replace hd5 := ff8 _ _ hd5
      replace ft1 := ff8 _ _ ft1
      replace ft2 := ff8 _ _ ft2
      replace rl4 := LV.mono ff8 rl4
      replace fF := fF.trans ff8
      walk_at "r"
      refine s_ixL (SqL.of (zt8.fh _ _ hd5)) at0 ?_
      walk_at "r"
      refine ⟨sz (by simp), fun t4 ht4 => ?_⟩
      generalize eX : upd H8 _ _ = H9
      obtain ⟨F9, zt9, ff9, e9, ft4, -⟩ := zt8.frz ht4 eX notbl_tup
      clear eX zt8 e9
      replace fpl := ff9 _ _ fpl
      replace hd5 := ff9 _ _ hd5
      replace ft1 := ff9 _ _ ft1
      replace ft2 := ff9 _ _ ft2
      replace ft3 := ff9 _ _ ft3
      replace rl4 := LV.mono ff9 rl4
      replace fF := fF.trans ff9
      walk_at "r"
      refine ⟨sz (by simp), fun t5 ht5 => ?_⟩
      generalize eX : upd H9 _ _ = H10
      obtain ⟨F10, zt10, ff10, e10, ft5, -⟩ := zt9.frz ht5 eX notbl_tup
      clear eX zt9 e10
      replace fpl := ff10 _ _ fpl
      replace hd5 := ff10 _ _ hd5
      replace ft1 := ff10 _ _ ft1
      replace ft2 := ff10 _ _ ft2
      replace ft3 := ff10 _ _ ft3
      replace ft4 := ff10 _ _ ft4
      replace rl4 := LV.mono ff10 rl4
      replace fF := fF.trans ff10
      walk_at "r"
      refine ⟨sz (by simp), fun tl htl => ?_⟩
      generalize eX : upd H10 _ _ = H11
      obtain ⟨F11, zt11, ff11, e11, ftl, -⟩ := zt10.frz htl eX notbl_lst
      clear eX zt10 e11
      replace fpl := ff11 _ _ fpl
      replace hd5 := ff11 _ _ hd5
      replace ft1 := ff11 _ _ ft1
      replace ft2 := ff11 _ _ ft2
      replace ft3 := ff11 _ _ ft3
      replace ft4 := ff11 _ _ ft4
      replace ft5 := ff11 _ _ ft5
      replace rl4 := LV.mono ff11 rl4
      replace fF := fF.trans ff11
      walk_at "r"
      refine ⟨tl, rfl, ⟨_, SqL.of (zt11.fh _ _ ftl)⟩, ?_⟩
      have five : ∀ (i : Nat) (x : V), [V.ref t1, .ref t2, .ref t3, .ref t4, .ref t5][i]? = some x → ∃ (t : Addr) (n : Int) (w : Str), x = V.ref t ∧ F11 t = some (.tup [.int n, .str w]) ∧ n ≤ 1000000 ∧ (0 ≤ n → w = if fitN (k + 1) n.toNat = true then ("let" : Str) else ("cells" : Str)) := by
        intro i x hx
        rcases (show i = 0 ∨ i = 1 ∨ i = 2 ∨ i = 3 ∨ i = 4 by
          have := (List.getElem?_eq_some_iff.mp hx).1
          simp at this; omega) with rfl | rfl | rfl | rfl | rfl
        · exact ⟨t1, _, _, (Option.some.inj hx).symm, ft1, by omega, fun _ => by rw [Int.toNat_natCast, if_pos fit1]⟩
        · exact ⟨t2, _, _, (Option.some.inj hx).symm, ft2, by omega, fun _ => by rw [Int.toNat_natCast, if_pos fit2]⟩
        · exact ⟨t3, _, _, (Option.some.inj hx).symm, ft3, by omega, fun _ => by rw [show ((fb : Int) + 1).toNat = fb + 1 by omega, fit3]; rfl⟩
        · exact ⟨t4, _, _, (Option.some.inj hx).symm, ft4, by omega, fun h => by rw [show ((fa : Int) - 1).toNat = fa - 1 by omega, fit4 (by omega)]; rfl⟩
        · refine ⟨t5, _, _, (Option.some.inj hx).symm, ft5, by decide, fun h => ?_⟩
          rw [show ((10 : Int) ^ (6 : Int).toNat).toNat = 1000000 by decide, fit5]; rfl
      refine forL (xs := [V.ref t1, .ref t2, .ref t3, .ref t4, .ref t5]) (fun i σ H' => ∃ v7 v8 v9, σ = [some (.ref p), some (.ref b), some (.ref a), some (.int g), some (.ref pl), some (.int (k + 1 : Nat)), some (.ref d2), v7, v8, v9] ∧ ZT T F11 H' p)
        ⟨_, _, _, rfl, zt11⟩ (fun i σ H' _ ⟨_, _, _, _, s⟩ => SqL.of (s.fh _ _ ftl)) ?_ ?_
      · rintro i x σ H20 hx ⟨v7, v8, v9, rfl, zt20⟩
        obtain ⟨tt, n, w, rfl, htt, hn6, hw⟩ := five i x hx
        refine s_gtup (SqT.of (zt20.fh _ _ htt)) rfl ?_
        walk_at "r"
        refine ifd (fun hn0 => ?_) (fun _ => ?_)
        · obtain ⟨nn, rfl⟩ : ∃ nn : Nat, n = (nn : Int) := ⟨n.toNat, by omega⟩
          have hw' := hw (by omega)
          rw [Int.toNat_natCast] at hw'
          walk_at "r"
          refine ⟨rfl, F11, pl, _, l0, List.replicate k zeroL, nn, rfl, zt20.fh, fpl, rl4, by rw [List.length_replicate]; omega, by omega, fun y F21 H21 acc21 st21 hy rl21 => ?_⟩
          obtain ⟨zt21, ff21⟩ := zt20.stp st21
          have hy21 : cutT F21 y = some (.lst acc21) := cutT_at hy notbl_lst
          have hls : ∀ l ∈ ((countL nn ++ List.replicate (48 - clen nn) 0) :: List.replicate k zeroL), l.length = 48 ∧ isBits l := fun l hl => by
            rcases List.mem_cons.mp hl with rfl | hl
            · have hc := clen_le (n := nn) (by omega)
              refine ⟨by rw [List.length_append, countL_length, List.length_replicate]; unfold clen; unfold clen at hc; omega, fun x hx => ?_⟩
              rcases List.mem_append.mp hx with hx | hx
              · exact countL_bit _ (by omega) x hx
              · exact .inl (List.eq_of_mem_replicate hx)
            · rw [List.eq_of_mem_replicate hl]; exact zeroL_ok
          walk_at "r"
          refine ⟨rfl, cutT F21, y, acc21, _, g, rfl, zt21.fh, cutT_no _, hy21, cut_rl rl21, by rw [List.length_cons, List.length_replicate]; omega, hls, g1, g8, zt21.2.2, fun H22 x22 T22 => ?_⟩
          have zt22 := zt21.ext x22 T22
          rw [counted_word g0 g8 (by omega), ← hw']
          walk_at "r"
          refine ifn (fun _ => ?_) (fun z => absurd rfl z)
          walk_at "r"
          exact ⟨_, _, _, rfl, ⟨zt22.1.weak ff21, zt11.2.1, zt22.2.2⟩⟩
        · walk_at "r"
          exact ⟨_, _, _, rfl, zt20⟩
      · rintro σ H20 ⟨v7, v8, v9, rfl, zt20⟩
        clear five
        walk_at "r"
        refine ⟨sz (by simp), fun x1 hx1 => ?_⟩
        generalize eX : upd H20 _ _ = H21
        obtain ⟨F21, zt21, ff21, e21, fx1, -⟩ := zt20.frz hx1 eX notbl_lst
        clear eX zt20 e21
        replace fpl := ff21 _ _ fpl
        replace rl4 := LV.mono ff21 rl4
        replace fF := fF.trans ff21
        walk_at "r"
        refine s_rep (zt21.fh _ _ fx1) (by decide) (by decide) fun x2 hx2 => ?_
        generalize eX : upd H21 _ _ = H22
        obtain ⟨F22, zt22, ff22, e22, fx2, -⟩ := zt21.frz hx2 eX notbl_lst
        clear eX zt21 e22
        replace fpl := ff22 _ _ fpl
        replace fx1 := ff22 _ _ fx1
        replace rl4 := LV.mono ff22 rl4
        replace fF := fF.trans ff22
        walk_at "r"
        refine ⟨sz (by simp), fun x3 hx3 => ?_⟩
        generalize eX : upd H22 _ _ = H23
        obtain ⟨F23, zt23, ff23, e23, fx3, -⟩ := zt22.frz hx3 eX notbl_lst
        clear eX zt22 e23
        replace fpl := ff23 _ _ fpl
        replace fx1 := ff23 _ _ fx1
        replace fx2 := ff23 _ _ fx2
        replace rl4 := LV.mono ff23 rl4
        replace fF := fF.trans ff23
        walk_at "r"
        refine s_rep (zt23.fh _ _ fx3) (by decide) (by decide) fun x4 hx4 => ?_
        generalize eX : upd H23 _ _ = H24
        obtain ⟨F24, zt24, ff24, e24, fx4, -⟩ := zt23.frz hx4 eX notbl_lst
        clear eX zt23 e24
        replace fpl := ff24 _ _ fpl
        replace fx1 := ff24 _ _ fx1
        replace fx2 := ff24 _ _ fx2
        replace fx3 := ff24 _ _ fx3
        replace rl4 := LV.mono ff24 rl4
        replace fF := fF.trans ff24
        refine ⟨_, _, _, _, rfl, rfl, zt24.fh _ _ fx2, zt24.fh _ _ fx4, by decide, fun x5 hx5 => ?_⟩
        rw [show List.replicate (20 : Int).toNat (V.int 0) ++ List.replicate (28 : Int).toNat (V.int 1) = ld1.map V.int by rw [ld1, List.map_append, List.map_replicate, List.map_replicate]; rfl]
        generalize eX : upd H24 _ _ = H25
        obtain ⟨F25, zt25, ff25, e25, fx5, -⟩ := zt24.frz hx5 eX notbl_lst
        clear eX zt24 e25
        replace fpl := ff25 _ _ fpl
        replace fx1 := ff25 _ _ fx1
        replace fx2 := ff25 _ _ fx2
        replace fx3 := ff25 _ _ fx3
        replace fx4 := ff25 _ _ fx4
        replace rl4 := LV.mono ff25 rl4
        replace fF := fF.trans ff25
        walk_at "r"
        refine ⟨sz (by simp), fun y1 hy1 => ?_⟩
        generalize eX : upd H25 _ _ = H26
        obtain ⟨F26, zt26, ff26, e26, fy1, -⟩ := zt25.frz hy1 eX notbl_lst
        clear eX zt25 e26
        replace fpl := ff26 _ _ fpl
        replace fx1 := ff26 _ _ fx1
        replace fx2 := ff26 _ _ fx2
        replace fx3 := ff26 _ _ fx3
        replace fx4 := ff26 _ _ fx4
        replace fx5 := ff26 _ _ fx5
        replace rl4 := LV.mono ff26 rl4
        replace fF := fF.trans ff26
        walk_at "r"
        refine s_rep (zt26.fh _ _ fy1) (by decide) (by decide) fun y2 hy2 => ?_
        generalize eX : upd H26 _ _ = H27
        obtain ⟨F27, zt27, ff27, e27, fy2, -⟩ := zt26.frz hy2 eX notbl_lst
        clear eX zt26 e27
        replace fpl := ff27 _ _ fpl
        replace fx1 := ff27 _ _ fx1
        replace fx2 := ff27 _ _ fx2
        replace fx3 := ff27 _ _ fx3
        replace fx4 := ff27 _ _ fx4
        replace fx5 := ff27 _ _ fx5
        replace fy1 := ff27 _ _ fy1
        replace rl4 := LV.mono ff27 rl4
        replace fF := fF.trans ff27
        walk_at "r"
        refine ⟨rfl, 1000001, by rw [show (10 : Int) ^ (6 : Int).toNat + 1 = ((1000001 : Nat) : Int) by decide]; rfl, by decide, fun cc H28 e28 cc0 hcc => ?_⟩
        obtain ⟨F28, zt28, ff28, fcc, -⟩ := zt27.got e28 cc0 hcc notbl_lst
        clear zt27 e28 hcc cc0
        replace rl4 := LV.mono ff28 rl4
        replace fF := fF.trans ff28
        replace fpl := ff28 _ _ fpl
        replace fx1 := ff28 _ _ fx1
        replace fx2 := ff28 _ _ fx2
        replace fx3 := ff28 _ _ fx3
        replace fx4 := ff28 _ _ fx4
        replace fx5 := ff28 _ _ fx5
        replace fy1 := ff28 _ _ fy1
        replace fy2 := ff28 _ _ fy2
        walk_at "r"
        refine ⟨sz (by simp), fun c1 hc1 => ?_⟩
        generalize eX : upd H28 _ _ = H29
        obtain ⟨F29, zt29, ff29, e29, fc1, -⟩ := zt28.frz hc1 eX notbl_lst
        clear eX zt28 e29
        replace fpl := ff29 _ _ fpl
        replace fx1 := ff29 _ _ fx1
        replace fx2 := ff29 _ _ fx2
        replace fx3 := ff29 _ _ fx3
        replace fx4 := ff29 _ _ fx4
        replace fx5 := ff29 _ _ fx5
        replace fy1 := ff29 _ _ fy1
        replace fy2 := ff29 _ _ fy2
        replace fcc := ff29 _ _ fcc
        replace rl4 := LV.mono ff29 rl4
        replace fF := fF.trans ff29
        walk_at "r"
        refine s_rep (zt29.fh _ _ fc1) (by decide) (by decide) fun c2 hc2 => ?_
        generalize eX : upd H29 _ _ = H30
        obtain ⟨F30, zt30, ff30, e30, fc2, -⟩ := zt29.frz hc2 eX notbl_lst
        clear eX zt29 e30
        replace fpl := ff30 _ _ fpl
        replace fx1 := ff30 _ _ fx1
        replace fx2 := ff30 _ _ fx2
        replace fx3 := ff30 _ _ fx3
        replace fx4 := ff30 _ _ fx4
        replace fx5 := ff30 _ _ fx5
        replace fy1 := ff30 _ _ fy1
        replace fy2 := ff30 _ _ fy2
        replace fcc := ff30 _ _ fcc
        replace fc1 := ff30 _ _ fc1
        replace rl4 := LV.mono ff30 rl4
        replace fF := fF.trans ff30
        refine ⟨_, _, _, _, rfl, rfl, zt30.fh _ _ fcc, zt30.fh _ _ fc2, by decide +kernel, fun c3 hc3 => ?_⟩
        rw [show (countL 1000001).map V.int ++ List.replicate (9 : Int).toNat (V.int 0) = ld3.map V.int by rw [ld3, List.map_append, List.map_replicate]; rfl]
        generalize eX : upd H30 _ _ = H31
        obtain ⟨F31, zt31, ff31, e31, fc3, -⟩ := zt30.frz hc3 eX notbl_lst
        clear eX zt30 e31
        replace fpl := ff31 _ _ fpl
        replace fx1 := ff31 _ _ fx1
        replace fx2 := ff31 _ _ fx2
        replace fx3 := ff31 _ _ fx3
        replace fx4 := ff31 _ _ fx4
        replace fx5 := ff31 _ _ fx5
        replace fy1 := ff31 _ _ fy1
        replace fy2 := ff31 _ _ fy2
        replace fcc := ff31 _ _ fcc
        replace fc1 := ff31 _ _ fc1
        replace fc2 := ff31 _ _ fc2
        replace rl4 := LV.mono ff31 rl4
        replace fF := fF.trans ff31
        walk_at "r"
        refine ⟨sz (by simp), fun tt htt => ?_⟩
        generalize eX : upd H31 _ _ = H32
        obtain ⟨F32, zt32, ff32, e32, ftt, -⟩ := zt31.frz htt eX notbl_lst
        clear eX zt31 e32
        replace fpl := ff32 _ _ fpl
        replace fx1 := ff32 _ _ fx1
        replace fx2 := ff32 _ _ fx2
        replace fx3 := ff32 _ _ fx3
        replace fx4 := ff32 _ _ fx4
        replace fx5 := ff32 _ _ fx5
        replace fy1 := ff32 _ _ fy1
        replace fy2 := ff32 _ _ fy2
        replace fcc := ff32 _ _ fcc
        replace fc1 := ff32 _ _ fc1
        replace fc2 := ff32 _ _ fc2
        replace fc3 := ff32 _ _ fc3
        replace rl4 := LV.mono ff32 rl4
        replace fF := fF.trans ff32
        walk_at "r"
        refine ⟨tt, rfl, ⟨_, SqL.of (zt32.fh _ _ ftt)⟩, ?_⟩
        have three : ∀ (i : Nat) (x : V), [V.ref x5, .ref y2, .ref c3][i]? = some x → ∃ (t : Addr) (l : List Int), x = V.ref t ∧ F32 t = some (.lst (l.map V.int)) ∧ (l.length = 48 ∧ isBits l) ∧ cntT l = none := by
          intro i x hx
          rcases (show i = 0 ∨ i = 1 ∨ i = 2 by
            have := (List.getElem?_eq_some_iff.mp hx).1
            simp at this; omega) with rfl | rfl | rfl
          · exact ⟨x5, ld1, (Option.some.inj hx).symm, fx5, ld1_ok⟩
          · exact ⟨y2, zeroL, (Option.some.inj hx).symm, by rw [fy2, zeroL, List.map_replicate]; rfl, ld2_ok⟩
          · exact ⟨c3, ld3, (Option.some.inj hx).symm, fc3, ld3_ok⟩
        refine forL (xs := [V.ref x5, .ref y2, .ref c3]) (fun i σ H' => ∃ v9, σ = [some (.ref p), some (.ref b), some (.ref a), some (.int g), some (.ref pl), some (.int (k + 1 : Nat)), some (.ref d2), v7, v8, v9] ∧ ZT T F32 H' p)
          ⟨_, rfl, zt32⟩ (fun i σ H' _ ⟨_, _, s⟩ => SqL.of (s.fh _ _ ftt)) ?_ ?_
        · rintro i x σ H50 hx ⟨v9, rfl, zt50⟩
          obtain ⟨tx, l, rfl, htx, hlk, hcn⟩ := three i x hx
          clear hx
          have fW := Same.refl F32
          walk_at "r"
          refine ⟨sz (by simp), fun w1 hw1 => ?_⟩
          generalize eX : upd H50 _ _ = H51
          obtain ⟨F51, zt51, ff51, e51, fw1, -⟩ := zt50.frz hw1 eX notbl_lst
          clear eX zt50 e51
          have rlw51 := LV.mono ff51 rl4
          replace fW := fW.trans ff51
          replace fpl := ff51 _ _ fpl
          replace htx := ff51 _ _ htx
          walk_at "r"
          refine s_slL (SqL.of (zt51.fh _ _ fpl)) fun w2 hw2 => ?_
          rw [show cutV (V.ref v0 :: acc) (some 1) none = acc by rw [show (some (1 : Int)) = some ((1 : Nat) : Int) from rfl, cutV_from]; rfl]
          generalize eX : upd H51 _ _ = H52
          obtain ⟨F52, zt52, ff52, e52, fw2, -⟩ := zt51.frz hw2 eX notbl_lst
          clear eX zt51 e52
          have rlw52 := LV.mono ff52 rlw51
          replace fW := fW.trans ff52
          replace fpl := ff52 _ _ fpl
          replace htx := ff52 _ _ htx
          replace fw1 := ff52 _ _ fw1
          refine ⟨_, _, _, _, rfl, rfl, zt52.fh _ _ fw1, zt52.fh _ _ fw2, sz (by rw [List.length_singleton]; omega), fun w3 hw3 => ?_⟩
          generalize eX : upd H52 _ _ = H53
          obtain ⟨F53, zt53, ff53, e53, fw3, -⟩ := zt52.frz hw3 eX notbl_lst
          clear eX zt52 e53
          have rlw53 := LV.mono ff53 rlw52
          replace fW := fW.trans ff53
          replace fpl := ff53 _ _ fpl
          replace htx := ff53 _ _ htx
          replace fw1 := ff53 _ _ fw1
          replace fw2 := ff53 _ _ fw2
          have rl5 : RL F53 ([V.ref tx] ++ acc) (l :: List.replicate k zeroL) := by
            cases rlw53 with
            | cons _ r => exact .cons htx r
          walk_at "r"
          refine ⟨rfl, F53, w3, _, _, g, rfl, zt53.fh, zt53.2.1, fw3, rl5, by rw [List.length_cons, List.length_replicate]; omega, fun x hx => ?_, g1, g8, zt53.2.2, fun H60 x60 T60 => ?_⟩
          · rcases List.mem_cons.mp hx with rfl | hx
            · exact hlk
            · rw [List.eq_of_mem_replicate hx]; exact zeroL_ok
          have zt60 := zt53.ext x60 T60
          rw [none_word g0 g8 hlk hcn]
          walk_at "r"
          refine ifn (fun _ => ?_) (fun z => absurd rfl z)
          walk_at "r"
          exact ⟨_, rfl, ⟨zt60.1.weak fW, zt32.2.1, zt60.2.2⟩⟩
        · rintro σ H50 ⟨v9, rfl, zt50⟩
          walk_at "r"
          exact q _ (zt50.1.weak fF) zt50.2.2
abbrev s_law_fillings_right : Stmt := topS 49
theorem sc_law_fillings_right : FnScope ["_law_source", "_law_bits_here", "_law_loads_here", "_law_group", "_law_filled", "_law_place", "_law_last", "_law_cells_here", "_law_cell"] ["_law_source", "_law_bits_here", "_law_loads_here", "_law_group"] (defScope s_law_fillings_right) := ⟨rfl, rfl, rfl, by decide +kernel, rfl, by decide +kernel, by decide +kernel⟩
def Ok_law_fillings_right (T : Tbs) (P : Program) (w : World) (K : PySem.W.Frag) (mg : Str → Option Value) (base : Heap) : Prop := ∃ fA fd, Fn P w K mg base (L2.CX P w) 9 "_law_fillings_right" s_law_fillings_right fA fd ["_law_source", "_law_bits_here", "_law_loads_here", "_law_group"] (sp_law_fillings_right T K mg)
theorem okx_law_fillings_right (Z : Zs K mg) {fA : Addr} {fd : FuncData} (F : Fun K "_law_fillings_right" "_law_fillings_right" s_law_fillings_right fA fd) (m : mg "_law_fillings_right" = some (.ref fA)) {T : Tbs} {c0 P0 : Addr} (TB : LamX.TabB base mg c0 P0) (hcode : fd.code = .ref c0) (hmT : (P0, qLam "_law_fillings_right") ∈ T) (hu : ∀ p ∈ T, p.1 = P0 → p.2 = qLam "_law_fillings_right") (C_law_heard : OkG K mg "_law_heard" "_law_call" s_law_heard ["_law_call"]) (C_open_cells : Ok_open_cells P w K mg base) (C_law_joined : Ok_law_joined P w K mg base) (C_law_cells : Ok_law_cells P w K mg base) (C_law_opened : Ok_law_opened T P w K mg base) (C_law_take : Ok_law_take P w K mg base) (C_law_count : Ok_law_count P w K mg base) : Fn P w K mg base (L2.CX P w) 9 "_law_fillings_right" s_law_fillings_right fA fd ["_law_source", "_law_bits_here", "_law_loads_here", "_law_group"] (sp_law_fillings_right T K mg) := by
  obtain ⟨_, _, C_law_heard⟩ := C_law_heard
  obtain ⟨_, _, C_open_cells⟩ := C_open_cells
  obtain ⟨_, _, C_law_joined⟩ := C_law_joined
  obtain ⟨_, _, C_law_cells⟩ := C_law_cells
  obtain ⟨_, _, C_law_opened⟩ := C_law_opened
  obtain ⟨_, _, C_law_take⟩ := C_law_take
  obtain ⟨_, _, C_law_count⟩ := C_law_count
  refine ⟨okXc F sc_law_fillings_right (fun vs H Q E h => h.1) (fun A outer s H vs Q E hr h => ?_), m, F.kp, F.binds fun _ _ _ _ _ _ us hl => match us, hl with | [_, _, _, _], _ => rfl, F⟩
  have hu64 := hr.units
  obtain ⟨hlen, h⟩ := h
  refine ⟨_, (pss_cons (ps_set (i := 4) sc_law_fillings_right.nd rfl (Or.inl rfl) (pe_op op_mod (pe_un un_neg (pe_op op_add (pe_callB (c_len K rfl) (by rfl) Z.z_len (by decide +kernel) (pa_cons (pe_call C_law_count.G (hr.mono (by decide)) rfl C_law_count.m C_law_count.kp C_law_count.b .nil passL (pa_cons (pe_callB (c_len K rfl) (by rfl) Z.z_len (by decide +kernel) (pa_cons (pv 1) pa_nil)) pa_nil)) pa_nil)) (pe_callB (c_len K rfl) (by rfl) Z.z_len (by decide +kernel) (pa_cons (pv 1) pa_nil)))) pe_int))
    (pss_cons (ps_if (pt_cmpR op_eq (pv 4) pe_int (nomark _))
      (pss_one (ps_ret pe_bl))
      pss_nil)
    (pss_cons (ps_set (i := 5) sc_law_fillings_right.nd rfl (Or.inl rfl) (pe_op op_sub pe_int (pe_call C_law_take.G (hr.mono (by decide)) rfl C_law_take.m C_law_take.kp C_law_take.b .nil passL (pa_cons (pv 0) (pa_cons (pv 4) pa_nil)))))
    (pss_cons (ps_set (i := 6) sc_law_fillings_right.nd rfl (Or.inl rfl) (pe_op op_cat (pe_op op_cat (pe_slice (l_list K rfl) (pe_ix (i_list K rfl) (pv 2) (pe_un un_neg pe_int) (fun _ _ => rfl)) po_none (po_some (pv 5))) (pe_lst (pa_cons pe_int pa_nil))) (pe_slice (l_list K rfl) (pe_ix (i_list K rfl) (pv 2) (pe_un un_neg pe_int) (fun _ _ => rfl)) (po_some (pe_op op_add (pv 5) pe_int)) po_none)))
    (pss_cons (ps_if (pt_cmpR op_ne (pe_call C_law_opened.G (hr.mono (by decide)) rfl C_law_opened.m C_law_opened.kp C_law_opened.b .nil passL (pa_cons (pe_op op_cat (pe_slice (l_list K rfl) (pv 2) po_none (po_some (pe_un un_neg pe_int))) (pe_lst (pa_cons (pv 6) pa_nil))) (pa_cons (pv 3) pa_nil))) pe_str (nomark _))
      (pss_one (ps_ret pe_bl))
      pss_nil)
    (pss_cons (ps_if (pt_cmpR op_eq (pe_callB (c_len K rfl) (by rfl) Z.z_len (by decide +kernel) (pa_cons (pv 2) pa_nil)) pe_int (nomark _))
      (pss_one (ps_ret pe_bl))
      pss_nil)
    (pss_cons (ps_set (i := 7) sc_law_fillings_right.nd rfl (Or.inl rfl) (pe_call C_law_cells.G (hr.mono (by decide)) rfl C_law_cells.m C_law_cells.kp C_law_cells.b .nil passL (pa_cons (pe_op op_cat (pe_slice (l_list K rfl) (pv 2) po_none (po_some (pe_un un_neg pe_int))) (pe_lst (pa_cons (pv 6) pa_nil))) (pa_cons (pv 3) pa_nil))))
    (pss_cons (ps_set (i := 1) sc_law_fillings_right.nd rfl (Or.inr rfl) (pe_call C_law_joined.G (hr.mono (by decide)) rfl C_law_joined.m C_law_joined.kp C_law_joined.b .nil passL (pa_cons (pe_op op_cat (pe_slice (l_list K rfl) (pv 7) po_none (po_some (pe_un un_neg pe_int))) (pe_lc (own := [("_law_cell", 8)]) (g := gName 8) (tt := tYes) (by rfl) sc_law_fillings_right.nd (pi_list (pe_slice (l_list K rfl) (pv 7) (po_some (pe_un un_neg pe_int)) po_none)) (blkOk_by (own := [("_law_cell", 8)]) (N := ["_law_source", "_law_bits_here", "_law_loads_here", "_law_group", "_law_filled", "_law_place", "_law_last", "_law_cells_here", "_law_cell"]) (sc := defScope s_law_fillings_right) (by decide +kernel)) (fun _ _ _ _ _ => (pg_name (i := 8) sc_law_fillings_right.nd rfl (Or.inl rfl))) (fun _ _ _ _ _ => pts_nil) (fun _ _ _ _ _ => (pe_op op_cat (pe_lst (pa_cons (pe_op op_sub pe_int (pe_ix (i_list K rfl) (pv 8) pe_int (fun _ _ => rfl))) pa_nil)) (pe_slice (l_list K rfl) (pv 8) (po_some pe_int) po_none))))) pa_nil)))
    (pss_one (ps_ret (pe_cmpR op_eq (pe_lam (k := 5) C_law_heard rfl rfl (Or.inl rfl) (gv_law_heard Z _) TB hcode hmT hu (hr.mono (by decide)) (LamX.lamS_by (by rfl)) rfl (fun _ _ _ _ _ => rfl) (fun A outer s H E f c' hr => (pe_call C_open_cells.G (hr.mono (by decide)) rfl C_open_cells.m C_open_cells.kp C_open_cells.b .nil (passes_call (takes_of rfl rfl rfl rfl) (fun _ _ _ _ h => h)) (pa_cons (pv 1) (pa_cons (pv 3) pa_nil))))) pe_str (nomark _)))))))))))), ?_⟩
  obtain ⟨F, p, b, a, bs, g, us, rfl, hs, nT, bB, bl, hb, g1, g8, ha, hR, hT, q⟩ := h
  have zt0 : ZT _ F H p := ⟨hs, nT, hT⟩
  clear hs nT hT
  have fF := Same.refl F
  have g0 : 0 < g := by omega
  have lds := loads_ok bB (by omega)
  have htl := toldC_length bs
  have hLn := loads_length bs
  have hcs := countL_short bl
  have h0 : 0 < (countL bs.length).length := by
    have := blen_pos (n := bs.length + 1) (by omega)
    rw [countL_length]; omega
  obtain ⟨K0, hK⟩ : ∃ K0, (loadsC bs).length = K0 := ⟨_, rfl⟩
  have hK0 : 0 < K0 := by omega
  have hK9 : K0 ≤ 9 := by omega
  obtain ⟨A, l, hAl⟩ : ∃ A l, loadsC bs = A ++ [l] := ⟨_, _, (List.dropLast_concat_getLast (List.length_pos_iff.mp (by omega))).symm⟩
  have hAK : A.length + 1 = K0 := by rw [← hK, hAl]; simp
  have hl48 : l.length = 48 ∧ isBits l := lds l (by rw [hAl]; simp)
  rw [hAl] at hR
  have hul := RL.len hR
  rw [List.length_append, List.length_singleton] at hul
  obtain ⟨vl, hus, hvl⟩ : ∃ vl, us = us.dropLast ++ [.ref vl] ∧ F vl = some (.lst (l.map V.int)) := by
    have hne : us ≠ [] := fun z => by rw [z] at hul; simp at hul
    obtain ⟨v, ll, e1, e2, e3⟩ := RL.get hR (us.length - 1) (List.getElem?_eq_getElem (i := us.length - 1) (by omega))
    rw [List.getElem?_append_right (by omega), show us.length - 1 - A.length = 0 by omega] at e2
    have e2 : l = ll := Option.some.inj e2
    subst e2
    refine ⟨v, ?_, e3⟩
    rw [← e1, ← List.getLast_eq_getElem hne, List.dropLast_concat_getLast hne]
  have hRA : RL F us.dropLast A := by
    have := RL.take (us.length - 1) hR
    rw [← List.dropLast_eq_take, show us.length - 1 = A.length by omega, List.take_left] at this
    exact this
  have hdl : us.dropLast.length = A.length := RL.len hRA
  walk_at "r"
  refine s_len (SqL.of (zt0.fh _ _ hb)) ?_
  walk_at "r"
  refine ⟨rfl, bs.length, by rw [List.length_map]; rfl, by omega, fun c H1 e1 c0 hc => ?_⟩
  walk_at "r"
  refine s_len (SqL.of (e1 _ _ (zt0.fh _ _ hb))) ?_
  walk_at "r"
  rw [List.length_map, List.length_map]
  obtain ⟨fil, hfil, hfil2⟩ : ∃ fil : Nat, -((((countL bs.length).length : Nat) : Int) + (bs.length : Int)) % 48 = (fil : Int) ∧ (toldC bs).length + fil = 48 * K0 ∧ fil < 48 := by
    refine ⟨(-((((countL bs.length).length : Nat) : Int) + (bs.length : Int)) % 48).toNat, ?_, ?_, ?_⟩ <;> omega
  rw [hfil]
  have zt1 := zt0.of e1
  clear zt0
  refine ifd (fun z => ?_) (fun z => ?_)
  · walk_at "r"
    exact q _ (zt1.1.weak fF) zt1.2.2
  clear c0 hc
  walk_at "r"
  refine ⟨rfl, _, p, _, rfl, zt1.1, by omega, by omega, fun r H2 s2 t2 r0 r1 => ?_⟩
  have zt2 := zt1.draw s2 t2
  clear zt1 s2 t2
  walk_at "r"
  obtain ⟨pl, hpl, hpl48, hplT⟩ : ∃ pl : Nat, 47 - r = (pl : Int) ∧ pl < 48 ∧ (toldC bs).length ≤ ((loadsC bs).length - 1) * 48 + pl := ⟨(47 - r).toNat, by omega, by omega, by omega⟩
  rw [hpl]
  have fl := fillL bB bl hpl48 hplT hAl
  have atl : atI us (-1) = some (.ref vl) := by
    rw [hus]; exact atI_last _ _
  refine s_ixL (SqL.of (zt2.fh _ _ ha)) atl ?_
  walk_at "r"
  refine s_slL (SqL.of (zt2.fh _ _ hvl)) fun s1 hs1 => ?_
  rw [cutV_to, ← List.map_take]
  generalize eX : upd H2 _ _ = H3
  obtain ⟨F3, zt3, ff3, e3, fs1, -⟩ := zt2.frz hs1 eX notbl_lst
  clear eX zt2 e3
  replace ha := ff3 _ _ ha
  replace hb := ff3 _ _ hb
  replace hvl := ff3 _ _ hvl
  replace hRA := LV.mono ff3 hRA
  replace fF := fF.trans ff3
  walk_at "r"
  refine ⟨sz (by simp), fun w1 hw1 => ?_⟩
  generalize eX : upd H3 _ _ = H4
  obtain ⟨F4, zt4, ff4, e4, fw1, -⟩ := zt3.frz hw1 eX notbl_lst
  clear eX zt3 e4
  replace ha := ff4 _ _ ha
  replace hb := ff4 _ _ hb
  replace hvl := ff4 _ _ hvl
  replace fs1 := ff4 _ _ fs1
  replace hRA := LV.mono ff4 hRA
  replace fF := fF.trans ff4
  walk_at "r"
  refine ⟨_, _, _, _, rfl, rfl, zt4.fh _ _ fs1, zt4.fh _ _ fw1, sz (by rw [List.length_map, List.length_take, List.length_singleton]; omega), fun s2 hs2 => ?_⟩
  rw [show (l.take pl).map V.int ++ [V.int 1] = (l.take pl ++ [(1 : Int)]).map V.int by simp]
  generalize eX : upd H4 _ _ = H5
  obtain ⟨F5, zt5, ff5, e5, fs2, -⟩ := zt4.frz hs2 eX notbl_lst
  clear eX zt4 e5
  replace ha := ff5 _ _ ha
  replace hb := ff5 _ _ hb
  replace hvl := ff5 _ _ hvl
  replace fs1 := ff5 _ _ fs1
  replace fw1 := ff5 _ _ fw1
  replace hRA := LV.mono ff5 hRA
  replace fF := fF.trans ff5
  walk_at "r"
  refine s_ixL (SqL.of (zt5.fh _ _ ha)) atl ?_
  walk_at "r"
  rw [show (pl : Int) + 1 = ((pl + 1 : Nat) : Int) by omega]
  refine s_slL (SqL.of (zt5.fh _ _ hvl)) fun s3 hs3 => ?_
  rw [cutV_from, ← List.map_drop]
  generalize eX : upd H5 _ _ = H6
  obtain ⟨F6, zt6, ff6, e6, fs3, -⟩ := zt5.frz hs3 eX notbl_lst
  clear eX zt5 e6
  replace ha := ff6 _ _ ha
  replace hb := ff6 _ _ hb
  replace hvl := ff6 _ _ hvl
  replace fs1 := ff6 _ _ fs1
  replace fw1 := ff6 _ _ fw1
  replace fs2 := ff6 _ _ fs2
  replace hRA := LV.mono ff6 hRA
  replace fF := fF.trans ff6
  refine ⟨_, _, _, _, rfl, rfl, zt6.fh _ _ fs2, zt6.fh _ _ fs3, sz (by rw [List.length_map, List.length_map, List.length_append, List.length_take, List.length_drop, List.length_singleton]; omega), fun s4 hs4 => ?_⟩
  rw [show (l.take pl ++ [(1 : Int)]).map V.int ++ (l.drop (pl + 1)).map V.int = (l.take pl ++ [(1 : Int)] ++ l.drop (pl + 1)).map V.int by simp]
  generalize eX : upd H6 _ _ = H7
  obtain ⟨F7, zt7, ff7, e7, fs4, -⟩ := zt6.frz hs4 eX notbl_lst
  clear eX zt6 e7
  replace ha := ff7 _ _ ha
  replace hb := ff7 _ _ hb
  replace hvl := ff7 _ _ hvl
  replace fs1 := ff7 _ _ fs1
  replace fw1 := ff7 _ _ fw1
  replace fs2 := ff7 _ _ fs2
  replace fs3 := ff7 _ _ fs3
  replace hRA := LV.mono ff7 hRA
  replace fF := fF.trans ff7
  walk_at "r"
  refine s_slL (SqL.of (zt7.fh _ _ ha)) fun u1 hu1 => ?_
  rw [cutV_m1]
  generalize eX : upd H7 _ _ = H8
  obtain ⟨F8, zt8, ff8, e8, fu1, -⟩ := zt7.frz hu1 eX notbl_lst
  clear eX zt7 e8
  replace ha := ff8 _ _ ha
  replace hb := ff8 _ _ hb
  replace hvl := ff8 _ _ hvl
  replace fs1 := ff8 _ _ fs1
  replace fw1 := ff8 _ _ fw1
  replace fs2 := ff8 _ _ fs2
  replace fs3 := ff8 _ _ fs3
  replace fs4 := ff8 _ _ fs4
  replace hRA := LV.mono ff8 hRA
  replace fF := fF.trans ff8
  walk_at "r"
  refine ⟨sz (by simp), fun u2 hu2 => ?_⟩
  generalize eX : upd H8 _ _ = H9
  obtain ⟨F9, zt9, ff9, e9, fu2, -⟩ := zt8.frz hu2 eX notbl_lst
  clear eX zt8 e9
  replace ha := ff9 _ _ ha
  replace hb := ff9 _ _ hb
  replace hvl := ff9 _ _ hvl
  replace fs1 := ff9 _ _ fs1
  replace fw1 := ff9 _ _ fw1
  replace fs2 := ff9 _ _ fs2
  replace fs3 := ff9 _ _ fs3
  replace fs4 := ff9 _ _ fs4
  replace fu1 := ff9 _ _ fu1
  replace hRA := LV.mono ff9 hRA
  replace fF := fF.trans ff9
  refine ⟨_, _, _, _, rfl, rfl, zt9.fh _ _ fu1, zt9.fh _ _ fu2, sz (by rw [hdl, List.length_singleton]; omega), fun u3 hu3 => ?_⟩
  generalize eX : upd H9 _ _ = H10
  obtain ⟨F10, zt10, ff10, e10, fu3, -⟩ := zt9.frz hu3 eX notbl_lst
  clear eX zt9 e10
  replace ha := ff10 _ _ ha
  replace hb := ff10 _ _ hb
  replace hvl := ff10 _ _ hvl
  replace fs1 := ff10 _ _ fs1
  replace fw1 := ff10 _ _ fw1
  replace fs2 := ff10 _ _ fs2
  replace fs3 := ff10 _ _ fs3
  replace fs4 := ff10 _ _ fs4
  replace fu1 := ff10 _ _ fu1
  replace fu2 := ff10 _ _ fu2
  replace hRA := LV.mono ff10 hRA
  replace fF := fF.trans ff10
  have rlu : RL F10 (us.dropLast ++ [.ref s4]) (A ++ [l.take pl ++ [1] ++ l.drop (pl + 1)]) := RL.snoc hRA fs4
  walk_at "r"
  have lb : (A ++ [l.take pl ++ [(1 : Int)] ++ l.drop (pl + 1)]).length ≤ 100 := by rw [List.length_append, List.length_singleton]; omega
  refine ⟨rfl, F10, u3, _, _, g, rfl, zt10.fh, zt10.2.1, fu3, rlu, lb, fl.ok, g1, g8, zt10.2.2, fun H40 x40 T40 => ?_⟩
  have zt40 := zt10.ext x40 T40
  clear zt10
  rw [fill_cells fl g0 g8 bl hplT]
  walk_at "r"
  refine ifn (fun _ => ?_) (fun z => absurd rfl z)
  walk_at "r"
  refine s_len (SqL.of (zt40.fh _ _ ha)) ?_
  walk_at "r"
  refine ifd (fun z => ?_) (fun z1 => ?_)
  · walk_at "r"
    exact q _ (zt40.1.weak fF) zt40.2.2
  walk_at "r"
  refine s_slL (SqL.of (zt40.fh _ _ ha)) fun v1 hv1 => ?_
  rw [cutV_m1]
  generalize eX : upd H40 _ _ = H41
  obtain ⟨F41, zt41, ff41, e41, fv1, -⟩ := zt40.frz hv1 eX notbl_lst
  clear eX zt40 e41
  replace ha := ff41 _ _ ha
  replace hb := ff41 _ _ hb
  replace hvl := ff41 _ _ hvl
  replace fs1 := ff41 _ _ fs1
  replace fw1 := ff41 _ _ fw1
  replace fs2 := ff41 _ _ fs2
  replace fs3 := ff41 _ _ fs3
  replace fs4 := ff41 _ _ fs4
  replace fu1 := ff41 _ _ fu1
  replace fu2 := ff41 _ _ fu2
  replace fu3 := ff41 _ _ fu3
  replace hRA := LV.mono ff41 hRA
  replace fF := fF.trans ff41
  walk_at "r"
  refine ⟨sz (by simp), fun v2 hv2 => ?_⟩
  generalize eX : upd H41 _ _ = H42
  obtain ⟨F42, zt42, ff42, e42, fv2, -⟩ := zt41.frz hv2 eX notbl_lst
  clear eX zt41 e42
  replace ha := ff42 _ _ ha
  replace hb := ff42 _ _ hb
  replace hvl := ff42 _ _ hvl
  replace fs1 := ff42 _ _ fs1
  replace fw1 := ff42 _ _ fw1
  replace fs2 := ff42 _ _ fs2
  replace fs3 := ff42 _ _ fs3
  replace fs4 := ff42 _ _ fs4
  replace fu1 := ff42 _ _ fu1
  replace fu2 := ff42 _ _ fu2
  replace fu3 := ff42 _ _ fu3
  replace fv1 := ff42 _ _ fv1
  replace hRA := LV.mono ff42 hRA
  replace fF := fF.trans ff42
  refine ⟨_, _, _, _, rfl, rfl, zt42.fh _ _ fv1, zt42.fh _ _ fv2, sz (by rw [hdl, List.length_singleton]; omega), fun v3 hv3 => ?_⟩
  generalize eX : upd H42 _ _ = H43
  obtain ⟨F43, zt43, ff43, e43, fv3, -⟩ := zt42.frz hv3 eX notbl_lst
  clear eX zt42 e43
  replace ha := ff43 _ _ ha
  replace hb := ff43 _ _ hb
  replace hvl := ff43 _ _ hvl
  replace fs1 := ff43 _ _ fs1
  replace fw1 := ff43 _ _ fw1
  replace fs2 := ff43 _ _ fs2
  replace fs3 := ff43 _ _ fs3
  replace fs4 := ff43 _ _ fs4
  replace fu1 := ff43 _ _ fu1
  replace fu2 := ff43 _ _ fu2
  replace fu3 := ff43 _ _ fu3
  replace fv1 := ff43 _ _ fv1
  replace fv2 := ff43 _ _ fv2
  replace hRA := LV.mono ff43 hRA
  replace fF := fF.trans ff43
  have rlv : RL F43 (us.dropLast ++ [.ref s4]) (A ++ [l.take pl ++ [1] ++ l.drop (pl + 1)]) := RL.snoc hRA fs4
  walk_at "r"
  refine ⟨rfl, F43, v3, _, _, g, rfl, zt43.fh, fv3, rlv, by omega, fl.ok, by omega, by omega, fun y F50' H50 acc st50 hy rl50 => ?_⟩
  obtain ⟨zt50, ff50⟩ := zt43.stp st50
  replace hy : cutT F50' y = some (.lst acc) := cutT_at hy notbl_lst
  replace rl50 := cut_rl rl50
  generalize cutT F50' = F50 at zt50 ff50 hy rl50
  replace fF := fF.trans ff50
  clear zt43 st50 rlu rlv ff50
  obtain ⟨N, hN⟩ : ∃ N, (cellsC g (A ++ [l.take pl ++ [1] ++ l.drop (pl + 1)])).length = N := ⟨_, rfl⟩
  obtain ⟨n2, wlet⟩ := fill_let fl g0 g8 bl (by omega) hN
  have hcell := cells_cell g0 fl.ok
  have hNle := cells_le g0 (A ++ [l.take pl ++ [1] ++ l.drop (pl + 1)])
  generalize cellsC g (A ++ [l.take pl ++ [1] ++ l.drop (pl + 1)]) = cs at hN wlet hcell rl50 hNle
  have hal := RL.len rl50
  walk_at "r"
  refine s_slL (SqL.of (zt50.fh _ _ hy)) fun y1 hy1 => ?_
  rw [show (-2 : Int) = -((2 : Nat) : Int) from rfl, cutV_neg _ (by decide), hal, hN]
  generalize eX : upd H50 y1 _ = H51
  obtain ⟨F51, zt51, ff51, e51, fy1, -⟩ := zt50.frz hy1 eX notbl_lst
  clear eX zt50 e51
  replace hy := ff51 _ _ hy
  replace rl50 := LV.mono ff51 rl50
  replace fF := fF.trans ff51
  walk_at "r"
  refine s_slL (SqL.of (zt51.fh _ _ hy)) fun y2 hy2 => ?_
  rw [show (-2 : Int) = -((2 : Nat) : Int) from rfl, cutV_tail _ (by decide), hal, hN]
  generalize eX : upd H51 y2 _ = H52
  obtain ⟨F52, zt52, ff52, e52, fy2, -⟩ := zt51.frz hy2 eX notbl_lst
  clear eX zt51 e52
  replace fy1 := ff52 _ _ fy1
  replace rl50 := LV.mono ff52 rl50
  replace fF := fF.trans ff52
  refine ⟨y2, rfl, ⟨_, SqL.of (zt52.fh _ _ fy2)⟩, ?_⟩
  have rlD : RL F52 (acc.drop (N - 2)) (cs.drop (N - 2)) := RL.drop _ rl50
  have hDl := RL.len rlD
  have hcl : ∀ x, List.length (List.drop x cs) = cs.length - x := fun x => List.length_drop
  refine lcW (walk_list (xs := acc.drop (N - 2))) S0 zt52.fh (fun _ z => z.elim) (fun F1 H1 st => SqL.of (st.fh _ _ (st.ff _ _ fy2))) (fun i acc F H => RL F acc (((cs.drop (N - 2)).map flipH).take i)) (fun _ _ _ _ _ _ _ _ _ r => r) .nil ?_ ?_
  · rintro i x acc2 d Fa Ha' Ha hi ⟨rfl, hx⟩ hd nS st f0 e hl rr
    obtain ⟨cA, cc, rfl, hcc, hcA⟩ := RL.get rlD i hx
    have hi2 : i < (cs.drop (N - 2)).length := (List.getElem?_eq_some_iff.mp hcc).1
    obtain ⟨l5, rfl, l548, l5B⟩ := hcell cc (List.mem_of_mem_drop (List.mem_of_getElem? hcc))
    obtain ⟨x0, xr, hxe⟩ : ∃ x0 xr, cellC l5 = x0 :: xr := by
      have := cellC_len l548
      cases z : cellC l5 with
      | nil => rw [z] at this; simp at this
      | cons x y => exact ⟨x, y, rfl⟩
    have hxl := cellC_len l548
    rw [hxe] at hxl hcc hcA
    rw [List.length_cons] at hxl
    have hcAa := st.fh _ _ (st.ff _ _ hcA)
    have hi3 : i < 3 := by rw [hcl] at hi2; omega
    walk_at "r"
    refine s_ixL (SqL.of hcAa) (at_of (j := 0) (by decide) rfl) ?_
    walk_at "r"
    refine ⟨sz (by simp), fun k1 hk1 => ?_⟩
    have e5 := (Stp.new (S := S0) (o := .lst [.int (1 - x0)]) (Same.refl Ha) hk1).same
    have h5 : upd Ha k1 (.lst [.int (1 - x0)]) k1 = some (.lst [.int (1 - x0)]) := upd_same
    generalize upd Ha k1 _ = H5 at e5 h5 ⊢
    walk_at "r"
    refine s_slL (SqL.of (e5 _ _ hcAa)) fun k2 hk2 => ?_
    rw [show cutV ((x0 :: xr).map V.int) (some 1) none = xr.map V.int by rw [show (some (1 : Int)) = some ((1 : Nat) : Int) from rfl, cutV_from]; rfl]
    have e6 := (Stp.new (S := S0) (o := .lst (xr.map V.int)) (Same.refl H5) hk2).same
    have h6 : upd H5 k2 (.lst (xr.map V.int)) k2 = some (.lst (xr.map V.int)) := upd_same
    generalize upd H5 k2 _ = H6 at e6 h6 ⊢
    refine ⟨_, _, _, _, rfl, rfl, e6 _ _ h5, h6, sz (by rw [List.length_singleton, List.length_map]; omega), fun k3 hk3 => ?_⟩
    have s7 := (Stp.ofSame (S := S0) st.fh (e5.trans e6)).trans (Stp.new (S := S0) (o := .lst ([V.int (1 - x0)] ++ xr.map V.int)) (st.fh.trans (e5.trans e6)) hk3)
    refine lc_end hd nS st f0 e hl (by omega) s7 ?_
    have hi4 : i < ((cs.drop (N - 2)).map flipH).length := by rw [List.length_map]; exact hi2
    rw [List.take_succ_eq_append_getElem hi4]
    refine RL.snoc (LV.mono s7.ff rr) ?_
    rw [upd_same, List.getElem_map, (List.getElem?_eq_some_iff.mp hcc).2]
    rfl
  · intro d acc2 Fa Fb Hb st hd f0 ef st1 hl rr
    obtain ⟨zt53, ff53⟩ := zt52.stp st1
    have hd53 : cutT Fb d = some (.lst acc2) := cutT_at (by rw [ef]; exact upd_same) notbl_lst
    have rl53 : RL (cutT Fb) acc2 ((cs.drop (N - 2)).map flipH) := by
      rw [List.take_of_length_le (by rw [List.length_map, hDl]; exact Nat.le_refl _)] at rr
      refine cut_rl (LV.mono ?_ rr)
      rw [ef]
      exact fun b u e => by rw [upd_ne (ne_of_none e f0)]; exact e
    generalize cutT Fb = F53 at zt53 ff53 hd53 rl53
    replace fy1 := ff53 _ _ fy1
    replace rl50 := LV.mono ff53 rl50
    replace fF := fF.trans ff53
    clear ef st1 st rr f0 zt52
    have ha2 := RL.len rl53
    rw [List.length_map, hcl] at ha2
    refine ⟨_, _, _, _, rfl, rfl, zt53.fh _ _ fy1, zt53.fh _ _ hd53, sz (by rw [List.length_take]; omega), fun y4 hy4 => ?_⟩
    generalize eX : upd Hb y4 _ = H54
    obtain ⟨F54, zt54, ff54, e54, fy4, -⟩ := zt53.frz hy4 eX notbl_lst
    clear eX zt53 e54
    have rl54 : RL F54 (acc.take (N - 2) ++ acc2) (cs.take (N - 2) ++ (cs.drop (N - 2)).map flipH) := RL.app (RL.take _ (LV.mono ff54 rl50)) (LV.mono ff54 rl53)
    replace fF := fF.trans ff54
    have h56 : ∀ c ∈ cs.take (N - 2) ++ (cs.drop (N - 2)).map flipH, c.length = 56 := fun c hc => by
      rcases List.mem_append.mp hc with hc | hc
      · obtain ⟨l6, rfl, l648, _⟩ := hcell c (List.mem_of_mem_take hc)
        exact cellC_len l648
      · obtain ⟨c2, hc2, rfl⟩ := List.mem_map.mp hc
        obtain ⟨l6, rfl, l648, _⟩ := hcell c2 (List.mem_of_mem_drop hc2)
        rw [flipH_eq, flipL_len]; exact cellC_len l648
    have hlen : (cs.take (N - 2) ++ (cs.drop (N - 2)).map flipH).length ≤ 200 := by rw [List.length_append, List.length_map, List.length_take, hcl]; omega
    have hfl := flat_len _ h56
    generalize cs.take (N - 2) ++ (cs.drop (N - 2)).map flipH = ch at wlet rl54 h56 hlen hfl
    walk_at "r"
    refine ⟨rfl, y4, _, ch, rfl, SqL.of (zt54.fh _ _ fy4), LV.mono zt54.fh rl54, by omega, h56, fun y5 H55 e55 y50 hy5 => ?_⟩
    obtain ⟨F55, zt55, ff55, fy5, -⟩ := zt54.got e55 y50 hy5 notbl_lst
    clear zt54 e55 hy5 y50
    replace fF := fF.trans ff55
    walk_at "r"
    refine lamQ fun Q' hQ => ?_
    refine s_lam zt55.2.2 fun H56 x56 T56 => ?_
    have zt56 := zt55.ext x56 T56
    show tCall _ _ _ _ _ _ _
    walk_at "r"
    refine open_word (SqL.of (zt56.fh _ _ fy5)) (by omega) fun H57 e57 => ?_
    have zt57 := zt56.of e57
    rw [wlet]
    subst hQ
    walk_at "r"
    exact q _ (zt57.1.weak fF) zt57.2.2
abbrev s_law : Stmt := topS 50
theorem sc_law : FnScope ["_law_script", "_law_k", "_law_source", "_law_bits_here", "_law_group", "_law_loads_here"] ["_law_script"] (defScope s_law) := ⟨rfl, rfl, rfl, by decide +kernel, rfl, by decide +kernel, by decide +kernel⟩
def Ok_law (T : Tbs) (P : Program) (w : World) (K : PySem.W.Frag) (mg : Str → Option Value) (base : Heap) : Prop := ∃ fA fd, Fn P w K mg base (L2.CX P w) 10 "law" s_law fA fd ["_law_script"] (sp_law T K mg)
theorem okx_law (Z : Zs K mg) {fA : Addr} {fd : FuncData} (F : Fun K "law" "law" s_law fA fd) (m : mg "law" = some (.ref fA)) {T : Tbs} (C_law_fillings_right : Ok_law_fillings_right T P w K mg base) (C_law_counts_right : Ok_law_counts_right T P w K mg base) (C_law_sizes_right : Ok_law_sizes_right T P w K mg base) (C_law_cells : Ok_law_cells P w K mg base) (C_law_loads : Ok_law_loads P w K mg base) (C_law_count : Ok_law_count P w K mg base) (C_law_take : Ok_law_take P w K mg base) (C_law_bits : Ok_law_bits P w K mg base) (C_law_pool : Ok_law_pool P w K mg base) : Fn P w K mg base (L2.CX P w) 10 "law" s_law fA fd ["_law_script"] (sp_law T K mg) := by
  obtain ⟨_, _, C_law_fillings_right⟩ := C_law_fillings_right
  obtain ⟨_, _, C_law_counts_right⟩ := C_law_counts_right
  obtain ⟨_, _, C_law_sizes_right⟩ := C_law_sizes_right
  obtain ⟨_, _, C_law_cells⟩ := C_law_cells
  obtain ⟨_, _, C_law_loads⟩ := C_law_loads
  obtain ⟨_, _, C_law_count⟩ := C_law_count
  obtain ⟨_, _, C_law_take⟩ := C_law_take
  obtain ⟨_, _, C_law_bits⟩ := C_law_bits
  obtain ⟨_, _, C_law_pool⟩ := C_law_pool
  refine ⟨F.okX sc_law (fun vs H Q E h => h.1) (fun cdv A outer s H vs Q E hr h => ?_), m, F.kp, F.binds fun _ _ _ _ _ _ us hl => match us, hl with | [_], _ => rfl, F⟩
  have hu64 := hr.units
  obtain ⟨hlen, h⟩ := h
  refine ⟨_, (pss_cons (ps_for (passes_of rfl) rfl (pi_range1 rfl Z.z_range (pa_cons (pe_callB (c_max2 rfl) (by rfl) Z.z_max (by decide +kernel) (pa_cons pe_int (pa_cons (pe_callB (c_min2 rfl) (by rfl) Z.z_min (by decide +kernel) (pa_cons pe_int (pa_cons (pe_callB (c_len K rfl) (by rfl) Z.z_len (by decide +kernel) (pa_cons (pv 0) pa_nil)) pa_nil))) pa_nil))) pa_nil)) (pg_name (i := 1) sc_law.nd rfl (Or.inl rfl))
      (pss_cons (ps_set (i := 2) sc_law.nd rfl (Or.inl rfl) (pe_call C_law_pool.G (hr.mono (by decide)) rfl C_law_pool.m C_law_pool.kp C_law_pool.b .nil passL (pa_cons (pv 0) (pa_cons (pv 1) pa_nil))))
    (pss_cons (ps_par (i := 3) (j := 4) (by rfl) sc_law.nd rfl rfl (by decide) rfl rfl (pa_cons (pe_call C_law_bits.G (hr.mono (by decide)) rfl C_law_bits.m C_law_bits.kp C_law_bits.b .nil passL (pa_cons (pv 2) pa_nil)) (pa_cons (pe_op op_add pe_int (pe_call C_law_take.G (hr.mono (by decide)) rfl C_law_take.m C_law_take.kp C_law_take.b .nil passL (pa_cons (pv 2) (pa_cons pe_int pa_nil)))) pa_nil)) (by rfl))
    (pss_cons (ps_set (i := 5) sc_law.nd rfl (Or.inl rfl) (pe_call C_law_loads.G (hr.mono (by decide)) rfl C_law_loads.m C_law_loads.kp C_law_loads.b .nil passL (pa_cons (pe_op op_cat (pe_call C_law_count.G (hr.mono (by decide)) rfl C_law_count.m C_law_count.kp C_law_count.b .nil passL (pa_cons (pe_callB (c_len K rfl) (by rfl) Z.z_len (by decide +kernel) (pa_cons (pv 3) pa_nil)) pa_nil)) (pv 3)) pa_nil)))
    (pss_cons (ps_if (pt_not (pt_val (pe_call C_law_sizes_right.G (hr.mono (by decide)) rfl C_law_sizes_right.m C_law_sizes_right.kp C_law_sizes_right.b .nil passL (pa_cons (pv 2) (pa_cons (pe_call C_law_cells.G (hr.mono (by decide)) rfl C_law_cells.m C_law_cells.kp C_law_cells.b .nil passL (pa_cons (pv 5) (pa_cons (pv 4) pa_nil))) (pa_cons (pv 4) pa_nil))))))
      (pss_one (ps_ret pe_bl))
      pss_nil)
    (pss_one (ps_if (PW.pt (pw_or (pt_not (pt_val (pe_call C_law_counts_right.G (hr.mono (by decide)) rfl C_law_counts_right.m C_law_counts_right.kp C_law_counts_right.b .nil passL (pa_cons (pv 2) (pa_cons (pv 3) (pa_cons (pv 5) (pa_cons (pv 4) pa_nil))))))) (pw_or1 (pt_not (pt_val (pe_call C_law_fillings_right.G (hr.mono (by decide)) rfl C_law_fillings_right.m C_law_fillings_right.kp C_law_fillings_right.b .nil passL (pa_cons (pv 2) (pa_cons (pv 3) (pa_cons (pv 5) (pa_cons (pv 4) pa_nil))))))))))
      (pss_one (ps_ret pe_bl))
      pss_nil)))))))
    (pss_one (ps_ret pe_bl))), ?_⟩
  obtain ⟨sc, ns, rfl, hS, hl, hT, q⟩ := h
  walk_at "r"
  refine ⟨_, rfl, by split <;> split <;> omega, by split <;> split <;> omega, ?_⟩
  have hS0 : SqL K (cutT H) sc (ns.map V.int) := SqL.cut hS
  have nT0 : NoT (cutT H) := cutT_no H
  generalize hF0 : cutT H = F0 at hS0 nT0
  have sF0 : Same F0 H := by rw [← hF0]; exact cutT_same H
  clear hF0
  refine forR (fun i σ H' => ∃ v1 v2 v3 v4 v5, σ = [some (.ref sc), v1, v2, v3, v4, v5] ∧ Same F0 H' ∧ LamX.Tabs T H') ⟨_, _, _, _, _, rfl, sF0, hT⟩ ?_ ?_
  · rintro i σ H1 hi ⟨v1, v2, v3, v4, v5, rfl, e1, T1⟩
    walk_at "r"
    refine ⟨rfl, sc, ns, _, rfl, e1.seq hS0, by omega, ?_, fun p H2 s2 => ?_⟩
    · have : i < 3 := Nat.lt_of_lt_of_le hi (by split <;> split <;> omega)
      omega
    have z2 : ZT T (cutT H1) H2 p := ⟨s2.cut, cutT_no _, T1.ext s2.1⟩
    have fF : Same F0 (cutT H1) := cut_ff nT0 e1
    generalize cutT H1 = F1 at z2 fF
    walk_at "r"
    refine ⟨rfl, F1, p, rfl, z2.1, fun b bs F3 H3 s3 t3 hb bB bl => ?_⟩
    have z3 : ZT T (cutT F3) H3 p := ⟨s3.cut, cutT_no _, z2.1.tabs z2.2.2 t3⟩
    have hb3 : cutT F3 b = some (.lst (bs.map V.int)) := cutT_at hb notbl_lst
    have fF3 : Same F0 (cutT F3) := fF.trans (cut_ff z2.2.1 t3.ff)
    generalize cutT F3 = F3' at z3 hb3 fF3
    walk_at "r"
    refine ⟨rfl, F3', p, _, rfl, z3.1, by decide, by decide, fun r1 H4 s4 t4 r10 r11 => ?_⟩
    have z4 := z3.draw s4 t4
    obtain ⟨g, eg⟩ : ∃ g : Nat, 1 + r1 = (g : Int) := ⟨(1 + r1).toNat, by omega⟩
    have hcs := countL_short bl
    have htl := toldC_length bs
    have hLn := loads_length bs
    have lds := loads_ok bB (by omega)
    walk_at "r"
    rw [eg]
    walk_at "r"
    refine s_len (SqL.of (z4.fh _ _ hb3)) ?_
    walk_at "r"
    refine ⟨rfl, bs.length, by rw [List.length_map]; rfl, by omega, fun y1 H5 e5 y10 hy1 => ?_⟩
    have z5 := z4.of e5
    walk_at "r"
    refine ⟨_, _, _, _, rfl, rfl, hy1, z5.fh _ _ hb3, sz (by rw [List.length_map, List.length_map]; omega), fun y2 hy2 => ?_⟩
    generalize eX : upd H5 y2 _ = H6
    obtain ⟨F6, z6, ff6, e6, hy2, -⟩ := z5.frz hy2 eX notbl_lst
    clear eX
    rw [← List.map_append, show countL bs.length ++ bs = toldC bs from rfl] at hy2
    walk_at "r"
    refine ⟨rfl, F6, y2, toldC bs, rfl, z6.fh, hy2, by omega, fun y3 F7 H7 acc7 st7 hy3 rl7 => ?_⟩
    obtain ⟨z7, ff7⟩ := z6.stp st7
    replace hy3 : cutT F7 y3 = some (.lst acc7) := cutT_at hy3 notbl_lst
    have rl7 : RL (cutT F7) acc7 (loadsC bs) := cut_rl rl7
    have hb7 := ff7 _ _ (ff6 _ _ hb3)
    have fF7 := fF3.trans (ff6.trans ff7)
    generalize cutT F7 = F7' at z7 hy3 rl7 hb7 fF7
    walk_at "r"
    refine ⟨rfl, F7', y3, acc7, loadsC bs, g, rfl, z7.fh, hy3, rl7, by omega, lds, by omega, by omega, fun y4 F8 H8 acc8 st8 hy4 rl8 => ?_⟩
    obtain ⟨z8, ff8⟩ := z7.stp st8
    have hy4 : cutT F8 y4 = some (.lst acc8) := cutT_at hy4 notbl_lst
    have rl8 := cut_rl rl8
    walk_at "r"
    refine ⟨rfl, cutT F8, p, y4, bs, g, acc8, rfl, z8.1, cutT_no _, bB, bl, by omega, by omega, hy4, rl8, z8.2.2, fun H9 s9 T9 => ?_⟩
    have z9 : ZT T F7' H9 p := ⟨s9.weak ff8, z7.2.1, T9⟩
    walk_at "r"
    refine ⟨rfl, F7', p, b, y3, bs, g, acc7, rfl, z9.1, z7.2.1, bB, bl, hb7, by omega, by omega, hy3, rl7, T9, fun H10 s10 T10 => ?_⟩
    walk_at "r"
    refine ⟨rfl, F7', p, b, y3, bs, g, acc7, rfl, s10, z7.2.1, bB, bl, hb7, by omega, by omega, hy3, rl7, T10, fun H11 s11 T11 => ?_⟩
    walk_at "r"
    exact ⟨_, _, _, _, _, rfl, fF7.trans s11.1, T11⟩
  · rintro σ H1 ⟨v1, v2, v3, v4, v5, rfl, e1, T1⟩
    walk_at "r"
    exact q _
end
theorem all_mk {l : PySem.W.OpenLaw} {w : World} {K : PySem.W.Frag} {h : Heap} {mg : Str → Option Value} {fa : Addr} (X : K.In h) (G : h.Ns mainGlobals mg) (hfa : mg "law" = some (.ref fa))
    {f0 : Addr} {od0 an0 : Option Addr} {sl0 : Array (Option Value)} {oc0 kV0 dc0 pm0 cd0 ct0 : Value}
    (a0 : PySem.W.nsIn K mainGlobals "is_bit" = some (some (.ref f0))) (l0 : K.lookup f0 = some ⟨oc0, od0, .func (PySem.W.fnOf "is_bit" "is_bit" (defArgs s_is_bit) (defBody s_is_bit) (defScope s_is_bit) .none kV0 dc0 pm0 an0 cd0 ct0), sl0⟩) (c0 : PySem.W.codeIn K cd0 "is_bit" = true) (k0 : PySem.W.keepIn K (.ref f0) = true)
    {f1 : Addr} {od1 an1 : Option Addr} {sl1 : Array (Option Value)} {oc1 kV1 dc1 pm1 cd1 ct1 : Value}
    (a1 : PySem.W.nsIn K mainGlobals "check_bits" = some (some (.ref f1))) (l1 : K.lookup f1 = some ⟨oc1, od1, .func (PySem.W.fnOf "check_bits" "check_bits" (defArgs s_check_bits) (defBody s_check_bits) (defScope s_check_bits) .none kV1 dc1 pm1 an1 cd1 ct1), sl1⟩) (c1 : PySem.W.codeIn K cd1 "check_bits" = true) (k1 : PySem.W.keepIn K (.ref f1) = true)
    {f2 : Addr} {od2 an2 : Option Addr} {sl2 : Array (Option Value)} {oc2 kV2 dc2 pm2 cd2 ct2 : Value}
    (a2 : PySem.W.nsIn K mainGlobals "number_of" = some (some (.ref f2))) (l2 : K.lookup f2 = some ⟨oc2, od2, .func (PySem.W.fnOf "number_of" "number_of" (defArgs s_number_of) (defBody s_number_of) (defScope s_number_of) .none kV2 dc2 pm2 an2 cd2 ct2), sl2⟩) (c2 : PySem.W.codeIn K cd2 "number_of" = true) (k2 : PySem.W.keepIn K (.ref f2) = true)
    {f3 : Addr} {od3 an3 : Option Addr} {sl3 : Array (Option Value)} {oc3 kV3 dc3 pm3 cd3 ct3 : Value}
    (a3 : PySem.W.nsIn K mainGlobals "fixed" = some (some (.ref f3))) (l3 : K.lookup f3 = some ⟨oc3, od3, .func (PySem.W.fnOf "fixed" "fixed" (defArgs s_fixed) (defBody s_fixed) (defScope s_fixed) .none kV3 dc3 pm3 an3 cd3 ct3), sl3⟩) (c3 : PySem.W.codeIn K cd3 "fixed" = true) (k3 : PySem.W.keepIn K (.ref f3) = true)
    {f4 : Addr} {od4 an4 : Option Addr} {sl4 : Array (Option Value)} {oc4 kV4 dc4 pm4 cd4 ct4 : Value}
    (a4 : PySem.W.nsIn K mainGlobals "count_at" = some (some (.ref f4))) (l4 : K.lookup f4 = some ⟨oc4, od4, .func (PySem.W.fnOf "count_at" "count_at" (defArgs s_count_at) (defBody s_count_at) (defScope s_count_at) .none kV4 dc4 pm4 an4 cd4 ct4), sl4⟩) (c4 : PySem.W.codeIn K cd4 "count_at" = true) (k4 : PySem.W.keepIn K (.ref f4) = true)
    {f5 : Addr} {od5 an5 : Option Addr} {sl5 : Array (Option Value)} {oc5 kV5 dc5 pm5 cd5 ct5 : Value}
    (a5 : PySem.W.nsIn K mainGlobals "check_of" = some (some (.ref f5))) (l5 : K.lookup f5 = some ⟨oc5, od5, .func (PySem.W.fnOf "check_of" "check_of" (defArgs s_check_of) (defBody s_check_of) (defScope s_check_of) .none kV5 dc5 pm5 an5 cd5 ct5), sl5⟩) (c5 : PySem.W.codeIn K cd5 "check_of" = true) (k5 : PySem.W.keepIn K (.ref f5) = true)
    {f6 : Addr} {od6 an6 : Option Addr} {sl6 : Array (Option Value)} {oc6 kV6 dc6 pm6 cd6 ct6 : Value}
    (a6 : PySem.W.nsIn K mainGlobals "want_group" = some (some (.ref f6))) (l6 : K.lookup f6 = some ⟨oc6, od6, .func (PySem.W.fnOf "want_group" "want_group" (defArgs s_want_group) (defBody s_want_group) (defScope s_want_group) .none kV6 dc6 pm6 an6 cd6 ct6), sl6⟩) (c6 : PySem.W.codeIn K cd6 "want_group" = true) (k6 : PySem.W.keepIn K (.ref f6) = true)
    {f7 : Addr} {od7 an7 : Option Addr} {sl7 : Array (Option Value)} {oc7 kV7 dc7 pm7 cd7 ct7 : Value}
    (a7 : PySem.W.nsIn K mainGlobals "cut_up" = some (some (.ref f7))) (l7 : K.lookup f7 = some ⟨oc7, od7, .func (PySem.W.fnOf "cut_up" "cut_up" (defArgs s_cut_up) (defBody s_cut_up) (defScope s_cut_up) .none kV7 dc7 pm7 an7 cd7 ct7), sl7⟩) (c7 : PySem.W.codeIn K cd7 "cut_up" = true) (k7 : PySem.W.keepIn K (.ref f7) = true)
    {f8 : Addr} {od8 an8 : Option Addr} {sl8 : Array (Option Value)} {oc8 kV8 dc8 pm8 cd8 ct8 : Value}
    (a8 : PySem.W.nsIn K mainGlobals "sum_of" = some (some (.ref f8))) (l8 : K.lookup f8 = some ⟨oc8, od8, .func (PySem.W.fnOf "sum_of" "sum_of" (defArgs s_sum_of) (defBody s_sum_of) (defScope s_sum_of) .none kV8 dc8 pm8 an8 cd8 ct8), sl8⟩) (c8 : PySem.W.codeIn K cd8 "sum_of" = true) (k8 : PySem.W.keepIn K (.ref f8) = true)
    {f9 : Addr} {od9 an9 : Option Addr} {sl9 : Array (Option Value)} {oc9 kV9 dc9 pm9 cd9 ct9 : Value}
    (a9 : PySem.W.nsIn K mainGlobals "is_good" = some (some (.ref f9))) (l9 : K.lookup f9 = some ⟨oc9, od9, .func (PySem.W.fnOf "is_good" "is_good" (defArgs s_is_good) (defBody s_is_good) (defScope s_is_good) .none kV9 dc9 pm9 an9 cd9 ct9), sl9⟩) (c9 : PySem.W.codeIn K cd9 "is_good" = true) (k9 : PySem.W.keepIn K (.ref f9) = true)
    {f10 : Addr} {od10 an10 : Option Addr} {sl10 : Array (Option Value)} {oc10 kV10 dc10 pm10 cd10 ct10 : Value}
    (a10 : PySem.W.nsIn K mainGlobals "cells_of" = some (some (.ref f10))) (l10 : K.lookup f10 = some ⟨oc10, od10, .func (PySem.W.fnOf "cells_of" "cells_of" (defArgs s_cells_of) (defBody s_cells_of) (defScope s_cells_of) .none kV10 dc10 pm10 an10 cd10 ct10), sl10⟩) (c10 : PySem.W.codeIn K cd10 "cells_of" = true) (k10 : PySem.W.keepIn K (.ref f10) = true)
    {f11 : Addr} {od11 an11 : Option Addr} {sl11 : Array (Option Value)} {oc11 kV11 dc11 pm11 cd11 ct11 : Value}
    (a11 : PySem.W.nsIn K mainGlobals "good" = some (some (.ref f11))) (l11 : K.lookup f11 = some ⟨oc11, od11, .func (PySem.W.fnOf "good" "good" (defArgs s_good) (defBody s_good) (defScope s_good) .none kV11 dc11 pm11 an11 cd11 ct11), sl11⟩) (c11 : PySem.W.codeIn K cd11 "good" = true) (k11 : PySem.W.keepIn K (.ref f11) = true)
    {f12 : Addr} {od12 an12 : Option Addr} {sl12 : Array (Option Value)} {oc12 kV12 dc12 pm12 cd12 ct12 : Value}
    (a12 : PySem.W.nsIn K mainGlobals "opened_group" = some (some (.ref f12))) (l12 : K.lookup f12 = some ⟨oc12, od12, .func (PySem.W.fnOf "opened_group" "opened_group" (defArgs s_opened_group) (defBody s_opened_group) (defScope s_opened_group) .none kV12 dc12 pm12 an12 cd12 ct12), sl12⟩) (c12 : PySem.W.codeIn K cd12 "opened_group" = true) (k12 : PySem.W.keepIn K (.ref f12) = true)
    {f13 : Addr} {od13 an13 : Option Addr} {sl13 : Array (Option Value)} {oc13 kV13 dc13 pm13 cd13 ct13 : Value}
    (a13 : PySem.W.nsIn K mainGlobals "count_told" = some (some (.ref f13))) (l13 : K.lookup f13 = some ⟨oc13, od13, .func (PySem.W.fnOf "count_told" "count_told" (defArgs s_count_told) (defBody s_count_told) (defScope s_count_told) .none kV13 dc13 pm13 an13 cd13 ct13), sl13⟩) (c13 : PySem.W.codeIn K cd13 "count_told" = true) (k13 : PySem.W.keepIn K (.ref f13) = true)
    {f14 : Addr} {od14 an14 : Option Addr} {sl14 : Array (Option Value)} {oc14 kV14 dc14 pm14 cd14 ct14 : Value}
    (a14 : PySem.W.nsIn K mainGlobals "open_cells" = some (some (.ref f14))) (l14 : K.lookup f14 = some ⟨oc14, od14, .func (PySem.W.fnOf "open_cells" "open_cells" (defArgs s_open_cells) (defBody s_open_cells) (defScope s_open_cells) .none kV14 dc14 pm14 an14 cd14 ct14), sl14⟩) (c14 : PySem.W.codeIn K cd14 "open_cells" = true) (k14 : PySem.W.keepIn K (.ref f14) = true)
    {f15 : Addr} {od15 an15 : Option Addr} {sl15 : Array (Option Value)} {oc15 kV15 dc15 pm15 cd15 ct15 : Value}
    (a15 : PySem.W.nsIn K mainGlobals "_law_pool" = some (some (.ref f15))) (l15 : K.lookup f15 = some ⟨oc15, od15, .func (PySem.W.fnOf "_law_pool" "_law_pool" (defArgs s_law_pool) (defBody s_law_pool) (defScope s_law_pool) .none kV15 dc15 pm15 an15 cd15 ct15), sl15⟩) (c15 : PySem.W.codeIn K cd15 "_law_pool" = true) (k15 : PySem.W.keepIn K (.ref f15) = true)
    {f16 : Addr} {od16 an16 : Option Addr} {sl16 : Array (Option Value)} {oc16 kV16 dc16 pm16 cd16 ct16 : Value}
    (a16 : PySem.W.nsIn K mainGlobals "_law_take" = some (some (.ref f16))) (l16 : K.lookup f16 = some ⟨oc16, od16, .func (PySem.W.fnOf "_law_take" "_law_take" (defArgs s_law_take) (defBody s_law_take) (defScope s_law_take) .none kV16 dc16 pm16 an16 cd16 ct16), sl16⟩) (c16 : PySem.W.codeIn K cd16 "_law_take" = true) (k16 : PySem.W.keepIn K (.ref f16) = true)
    {f17 : Addr} {od17 an17 : Option Addr} {sl17 : Array (Option Value)} {oc17 kV17 dc17 pm17 cd17 ct17 : Value}
    (a17 : PySem.W.nsIn K mainGlobals "_law_one" = some (some (.ref f17))) (l17 : K.lookup f17 = some ⟨oc17, od17, .func (PySem.W.fnOf "_law_one" "_law_one" (defArgs s_law_one) (defBody s_law_one) (defScope s_law_one) .none kV17 dc17 pm17 an17 cd17 ct17), sl17⟩) (c17 : PySem.W.codeIn K cd17 "_law_one" = true) (k17 : PySem.W.keepIn K (.ref f17) = true)
    {f18 : Addr} {od18 an18 : Option Addr} {sl18 : Array (Option Value)} {oc18 kV18 dc18 pm18 cd18 ct18 : Value}
    (a18 : PySem.W.nsIn K mainGlobals "_law_count" = some (some (.ref f18))) (l18 : K.lookup f18 = some ⟨oc18, od18, .func (PySem.W.fnOf "_law_count" "_law_count" (defArgs s_law_count) (defBody s_law_count) (defScope s_law_count) .none kV18 dc18 pm18 an18 cd18 ct18), sl18⟩) (c18 : PySem.W.codeIn K cd18 "_law_count" = true) (k18 : PySem.W.keepIn K (.ref f18) = true)
    {f19 : Addr} {od19 an19 : Option Addr} {sl19 : Array (Option Value)} {oc19 kV19 dc19 pm19 cd19 ct19 : Value}
    (a19 : PySem.W.nsIn K mainGlobals "_law_check" = some (some (.ref f19))) (l19 : K.lookup f19 = some ⟨oc19, od19, .func (PySem.W.fnOf "_law_check" "_law_check" (defArgs s_law_check) (defBody s_law_check) (defScope s_law_check) .none kV19 dc19 pm19 an19 cd19 ct19), sl19⟩) (c19 : PySem.W.codeIn K cd19 "_law_check" = true) (k19 : PySem.W.keepIn K (.ref f19) = true)
    {f20 : Addr} {od20 an20 : Option Addr} {sl20 : Array (Option Value)} {oc20 kV20 dc20 pm20 cd20 ct20 : Value}
    (a20 : PySem.W.nsIn K mainGlobals "_law_sum" = some (some (.ref f20))) (l20 : K.lookup f20 = some ⟨oc20, od20, .func (PySem.W.fnOf "_law_sum" "_law_sum" (defArgs s_law_sum) (defBody s_law_sum) (defScope s_law_sum) .none kV20 dc20 pm20 an20 cd20 ct20), sl20⟩) (c20 : PySem.W.codeIn K cd20 "_law_sum" = true) (k20 : PySem.W.keepIn K (.ref f20) = true)
    {f21 : Addr} {od21 an21 : Option Addr} {sl21 : Array (Option Value)} {oc21 kV21 dc21 pm21 cd21 ct21 : Value}
    (a21 : PySem.W.nsIn K mainGlobals "_law_cells" = some (some (.ref f21))) (l21 : K.lookup f21 = some ⟨oc21, od21, .func (PySem.W.fnOf "_law_cells" "_law_cells" (defArgs s_law_cells) (defBody s_law_cells) (defScope s_law_cells) .none kV21 dc21 pm21 an21 cd21 ct21), sl21⟩) (c21 : PySem.W.codeIn K cd21 "_law_cells" = true) (k21 : PySem.W.keepIn K (.ref f21) = true)
    {f22 : Addr} {od22 an22 : Option Addr} {sl22 : Array (Option Value)} {oc22 kV22 dc22 pm22 cd22 ct22 : Value}
    (a22 : PySem.W.nsIn K mainGlobals "_law_loads" = some (some (.ref f22))) (l22 : K.lookup f22 = some ⟨oc22, od22, .func (PySem.W.fnOf "_law_loads" "_law_loads" (defArgs s_law_loads) (defBody s_law_loads) (defScope s_law_loads) .none kV22 dc22 pm22 an22 cd22 ct22), sl22⟩) (c22 : PySem.W.codeIn K cd22 "_law_loads" = true) (k22 : PySem.W.keepIn K (.ref f22) = true)
    {f23 : Addr} {od23 an23 : Option Addr} {sl23 : Array (Option Value)} {oc23 kV23 dc23 pm23 cd23 ct23 : Value}
    (a23 : PySem.W.nsIn K mainGlobals "_law_joined" = some (some (.ref f23))) (l23 : K.lookup f23 = some ⟨oc23, od23, .func (PySem.W.fnOf "_law_joined" "_law_joined" (defArgs s_law_joined) (defBody s_law_joined) (defScope s_law_joined) .none kV23 dc23 pm23 an23 cd23 ct23), sl23⟩) (c23 : PySem.W.codeIn K cd23 "_law_joined" = true) (k23 : PySem.W.keepIn K (.ref f23) = true)
    {f24 : Addr} {od24 an24 : Option Addr} {sl24 : Array (Option Value)} {oc24 kV24 dc24 pm24 cd24 ct24 : Value}
    (a24 : PySem.W.nsIn K mainGlobals "_law_bits" = some (some (.ref f24))) (l24 : K.lookup f24 = some ⟨oc24, od24, .func (PySem.W.fnOf "_law_bits" "_law_bits" (defArgs s_law_bits) (defBody s_law_bits) (defScope s_law_bits) .none kV24 dc24 pm24 an24 cd24 ct24), sl24⟩) (c24 : PySem.W.codeIn K cd24 "_law_bits" = true) (k24 : PySem.W.keepIn K (.ref f24) = true)
    {f25 : Addr} {od25 an25 : Option Addr} {sl25 : Array (Option Value)} {oc25 kV25 dc25 pm25 cd25 ct25 : Value}
    (a25 : PySem.W.nsIn K mainGlobals "_law_heard" = some (some (.ref f25))) (l25 : K.lookup f25 = some ⟨oc25, od25, .func (PySem.W.fnOf "_law_heard" "_law_heard" (defArgs s_law_heard) (defBody s_law_heard) (defScope s_law_heard) .none kV25 dc25 pm25 an25 cd25 ct25), sl25⟩) (c25 : PySem.W.codeIn K cd25 "_law_heard" = true) (k25 : PySem.W.keepIn K (.ref f25) = true)
    {f26 : Addr} {od26 an26 : Option Addr} {sl26 : Array (Option Value)} {oc26 kV26 dc26 pm26 cd26 ct26 : Value}
    (a26 : PySem.W.nsIn K mainGlobals "_law_both" = some (some (.ref f26))) (l26 : K.lookup f26 = some ⟨oc26, od26, .func (PySem.W.fnOf "_law_both" "_law_both" (defArgs s_law_both) (defBody s_law_both) (defScope s_law_both) .none kV26 dc26 pm26 an26 cd26 ct26), sl26⟩) (c26 : PySem.W.codeIn K cd26 "_law_both" = true) (k26 : PySem.W.keepIn K (.ref f26) = true)
    {f27 : Addr} {od27 an27 : Option Addr} {sl27 : Array (Option Value)} {oc27 kV27 dc27 pm27 cd27 ct27 : Value}
    (a27 : PySem.W.nsIn K mainGlobals "_law_opened" = some (some (.ref f27))) (l27 : K.lookup f27 = some ⟨oc27, od27, .func (PySem.W.fnOf "_law_opened" "_law_opened" (defArgs s_law_opened) (defBody s_law_opened) (defScope s_law_opened) .none kV27 dc27 pm27 an27 cd27 ct27), sl27⟩) (c27 : PySem.W.codeIn K cd27 "_law_opened" = true) (k27 : PySem.W.keepIn K (.ref f27) = true)
    {f28 : Addr} {od28 an28 : Option Addr} {sl28 : Array (Option Value)} {oc28 kV28 dc28 pm28 cd28 ct28 : Value}
    (a28 : PySem.W.nsIn K mainGlobals "_law_sizes_right" = some (some (.ref f28))) (l28 : K.lookup f28 = some ⟨oc28, od28, .func (PySem.W.fnOf "_law_sizes_right" "_law_sizes_right" (defArgs s_law_sizes_right) (defBody s_law_sizes_right) (defScope s_law_sizes_right) .none kV28 dc28 pm28 an28 cd28 ct28), sl28⟩) (c28 : PySem.W.codeIn K cd28 "_law_sizes_right" = true) (k28 : PySem.W.keepIn K (.ref f28) = true)
    {f29 : Addr} {od29 an29 : Option Addr} {sl29 : Array (Option Value)} {oc29 kV29 dc29 pm29 cd29 ct29 : Value}
    (a29 : PySem.W.nsIn K mainGlobals "_law_counted" = some (some (.ref f29))) (l29 : K.lookup f29 = some ⟨oc29, od29, .func (PySem.W.fnOf "_law_counted" "_law_counted" (defArgs s_law_counted) (defBody s_law_counted) (defScope s_law_counted) .none kV29 dc29 pm29 an29 cd29 ct29), sl29⟩) (c29 : PySem.W.codeIn K cd29 "_law_counted" = true) (k29 : PySem.W.keepIn K (.ref f29) = true)
    {f30 : Addr} {od30 an30 : Option Addr} {sl30 : Array (Option Value)} {oc30 kV30 dc30 pm30 cd30 ct30 : Value}
    (a30 : PySem.W.nsIn K mainGlobals "_law_counts_right" = some (some (.ref f30))) (l30 : K.lookup f30 = some ⟨oc30, od30, .func (PySem.W.fnOf "_law_counts_right" "_law_counts_right" (defArgs s_law_counts_right) (defBody s_law_counts_right) (defScope s_law_counts_right) .none kV30 dc30 pm30 an30 cd30 ct30), sl30⟩) (c30 : PySem.W.codeIn K cd30 "_law_counts_right" = true) (k30 : PySem.W.keepIn K (.ref f30) = true)
    {f31 : Addr} {od31 an31 : Option Addr} {sl31 : Array (Option Value)} {oc31 kV31 dc31 pm31 cd31 ct31 : Value}
    (a31 : PySem.W.nsIn K mainGlobals "_law_fillings_right" = some (some (.ref f31))) (l31 : K.lookup f31 = some ⟨oc31, od31, .func (PySem.W.fnOf "_law_fillings_right" "_law_fillings_right" (defArgs s_law_fillings_right) (defBody s_law_fillings_right) (defScope s_law_fillings_right) .none kV31 dc31 pm31 an31 cd31 ct31), sl31⟩) (c31 : PySem.W.codeIn K cd31 "_law_fillings_right" = true) (k31 : PySem.W.keepIn K (.ref f31) = true)
    {f32 : Addr} {od32 an32 : Option Addr} {sl32 : Array (Option Value)} {oc32 kV32 dc32 pm32 cd32 ct32 : Value}
    (a32 : PySem.W.nsIn K mainGlobals "law" = some (some (.ref f32))) (l32 : K.lookup f32 = some ⟨oc32, od32, .func (PySem.W.fnOf "law" "law" (defArgs s_law) (defBody s_law) (defScope s_law) .none kV32 dc32 pm32 an32 cd32 ct32), sl32⟩) (c32 : PySem.W.codeIn K cd32 "law" = true) (k32 : PySem.W.keepIn K (.ref f32) = true)
    (z_bool : PySem.W.nsIn K mainGlobals "bool" = some none)
    (z_divmod : PySem.W.nsIn K mainGlobals "divmod" = some none)
    (z_enumerate : PySem.W.nsIn K mainGlobals "enumerate" = some none)
    (z_int : PySem.W.nsIn K mainGlobals "int" = some none)
    (z_isinstance : PySem.W.nsIn K mainGlobals "isinstance" = some none)
    (z_len : PySem.W.nsIn K mainGlobals "len" = some none)
    (z_list : PySem.W.nsIn K mainGlobals "list" = some none)
    (z_max : PySem.W.nsIn K mainGlobals "max" = some none)
    (z_min : PySem.W.nsIn K mainGlobals "min" = some none)
    (z_range : PySem.W.nsIn K mainGlobals "range" = some none)
    (z_sum : PySem.W.nsIn K mainGlobals "sum" = some none)
    (z_zip : PySem.W.nsIn K mainGlobals "zip" = some none)
    {t_CELL_SIZE : Tok} (e_CELL_SIZE : PySem.W.nsIn K mainGlobals "CELL_SIZE" = some (some (.int (56) t_CELL_SIZE)))
    {t_CHECK_SIZE : Tok} (e_CHECK_SIZE : PySem.W.nsIn K mainGlobals "CHECK_SIZE" = some (some (.int (8) t_CHECK_SIZE)))
    {t_HIGHEST : Tok} (e_HIGHEST : PySem.W.nsIn K mainGlobals "HIGHEST" = some (some (.int (128) t_HIGHEST)))
    {t_LOAD_SIZE : Tok} (e_LOAD_SIZE : PySem.W.nsIn K mainGlobals "LOAD_SIZE" = some (some (.int (48) t_LOAD_SIZE)))
    {t_MOST_BITS : Tok} (e_MOST_BITS : PySem.W.nsIn K mainGlobals "MOST_BITS" = some (some (.int (1000000) t_MOST_BITS)))
    {t_MOST_GROUP : Tok} (e_MOST_GROUP : PySem.W.nsIn K mainGlobals "MOST_GROUP" = some (some (.int (8) t_MOST_GROUP)))
    {t_MOST_ZEROS : Tok} (e_MOST_ZEROS : PySem.W.nsIn K mainGlobals "MOST_ZEROS" = some (some (.int (40) t_MOST_ZEROS)))
    {t_STATES : Tok} (e_STATES : PySem.W.nsIn K mainGlobals "STATES" = some (some (.int (256) t_STATES)))
    {t_TURN : Tok} (e_TURN : PySem.W.nsIn K mainGlobals "TURN" = some (some (.int (7) t_TURN)))
    {C_BadBits : Addr} (g_BadBits : PySem.W.nsIn K mainGlobals "BadBits" = some (some (.ref C_BadBits))) (x0_BadBits : PySem.W.excIn K C_BadBits [.type "ValueError", .type "Exception", .type "BaseException", .type "object"] "ValueError.__new__" = true)
    (x1_BadBits : PySem.W.keepIn K (.ref C_BadBits) = true) (x2_BadBits : PySem.W.subIn K (.ref C_BadBits) (.type "BaseException") = some true) (x3_BadBits : PySem.W.typeIn K (.ref C_BadBits) = some (.type "type"))
    (x4_BadBits : PySem.W.findIn K (.ref C_BadBits) "__getattribute__" = some (some (.builtin "BaseException.__getattribute__"))) (x5_BadBits : PySem.W.findIn K (.ref C_BadBits) "__getattr__" = some none) (x6_BadBits : PySem.W.hasDictIn K C_BadBits = true)
    (x7_BadBits : PySem.W.findIn K (.ref C_BadBits) "__class__" = some (some (.builtin "object.__class__"))) (x8_BadBits : PySem.W.specialIn K (.builtin "object.__class__") "__get__" = some (some (.builtin "getset_descriptor.__get__"))) (x9_BadBits : PySem.W.takesIn K (.builtin "object.__class__") = some true) (xa_BadBits : PySem.W.mroIn K C_BadBits (.type "object") = some true)
    {C_BadCells : Addr} (g_BadCells : PySem.W.nsIn K mainGlobals "BadCells" = some (some (.ref C_BadCells))) (x0_BadCells : PySem.W.excIn K C_BadCells [.type "ValueError", .type "Exception", .type "BaseException", .type "object"] "ValueError.__new__" = true)
    (x1_BadCells : PySem.W.keepIn K (.ref C_BadCells) = true) (x2_BadCells : PySem.W.subIn K (.ref C_BadCells) (.type "BaseException") = some true) (x3_BadCells : PySem.W.typeIn K (.ref C_BadCells) = some (.type "type"))
    (x4_BadCells : PySem.W.findIn K (.ref C_BadCells) "__getattribute__" = some (some (.builtin "BaseException.__getattribute__"))) (x5_BadCells : PySem.W.findIn K (.ref C_BadCells) "__getattr__" = some none) (x6_BadCells : PySem.W.hasDictIn K C_BadCells = true)
    (x7_BadCells : PySem.W.findIn K (.ref C_BadCells) "__class__" = some (some (.builtin "object.__class__"))) (x8_BadCells : PySem.W.specialIn K (.builtin "object.__class__") "__get__" = some (some (.builtin "getset_descriptor.__get__"))) (x9_BadCells : PySem.W.takesIn K (.builtin "object.__class__") = some true) (xa_BadCells : PySem.W.mroIn K C_BadCells (.type "object") = some true)
    {C_NarrowError : Addr} (g_NarrowError : PySem.W.nsIn K mainGlobals "NarrowError" = some (some (.ref C_NarrowError))) (x0_NarrowError : PySem.W.excIn K C_NarrowError [.type "ValueError", .type "Exception", .type "BaseException", .type "object"] "ValueError.__new__" = true)
    (x1_NarrowError : PySem.W.keepIn K (.ref C_NarrowError) = true) (x2_NarrowError : PySem.W.subIn K (.ref C_NarrowError) (.type "BaseException") = some true) (x3_NarrowError : PySem.W.typeIn K (.ref C_NarrowError) = some (.type "type"))
    (x4_NarrowError : PySem.W.findIn K (.ref C_NarrowError) "__getattribute__" = some (some (.builtin "BaseException.__getattribute__"))) (x5_NarrowError : PySem.W.findIn K (.ref C_NarrowError) "__getattr__" = some none) (x6_NarrowError : PySem.W.hasDictIn K C_NarrowError = true)
    (x7_NarrowError : PySem.W.findIn K (.ref C_NarrowError) "__class__" = some (some (.builtin "object.__class__"))) (x8_NarrowError : PySem.W.specialIn K (.builtin "object.__class__") "__get__" = some (some (.builtin "getset_descriptor.__get__"))) (x9_NarrowError : PySem.W.takesIn K (.builtin "object.__class__") = some true) (xa_NarrowError : PySem.W.mroIn K C_NarrowError (.type "object") = some true)
    {C_Outside : Addr} (g_Outside : PySem.W.nsIn K mainGlobals "Outside" = some (some (.ref C_Outside))) (x0_Outside : PySem.W.excIn K C_Outside [.type "ValueError", .type "Exception", .type "BaseException", .type "object"] "ValueError.__new__" = true)
    (x1_Outside : PySem.W.keepIn K (.ref C_Outside) = true) (x2_Outside : PySem.W.subIn K (.ref C_Outside) (.type "BaseException") = some true) (x3_Outside : PySem.W.typeIn K (.ref C_Outside) = some (.type "type"))
    (x4_Outside : PySem.W.findIn K (.ref C_Outside) "__getattribute__" = some (some (.builtin "BaseException.__getattribute__"))) (x5_Outside : PySem.W.findIn K (.ref C_Outside) "__getattr__" = some none) (x6_Outside : PySem.W.hasDictIn K C_Outside = true)
    (x7_Outside : PySem.W.findIn K (.ref C_Outside) "__class__" = some (some (.builtin "object.__class__"))) (x8_Outside : PySem.W.specialIn K (.builtin "object.__class__") "__get__" = some (some (.builtin "getset_descriptor.__get__"))) (x9_Outside : PySem.W.takesIn K (.builtin "object.__class__") = some true) (xa_Outside : PySem.W.mroIn K C_Outside (.type "object") = some true)
    (s_BadBits_BadBits : PySem.W.subIn K (.ref C_BadBits) (.ref C_BadBits) = some true)
    (s_BadBits_BadCells : PySem.W.subIn K (.ref C_BadBits) (.ref C_BadCells) = some false)
    (s_BadBits_NarrowError : PySem.W.subIn K (.ref C_BadBits) (.ref C_NarrowError) = some true)
    (s_BadBits_Outside : PySem.W.subIn K (.ref C_BadBits) (.ref C_Outside) = some false)
    (s_BadCells_BadBits : PySem.W.subIn K (.ref C_BadCells) (.ref C_BadBits) = some false)
    (s_BadCells_BadCells : PySem.W.subIn K (.ref C_BadCells) (.ref C_BadCells) = some true)
    (s_BadCells_NarrowError : PySem.W.subIn K (.ref C_BadCells) (.ref C_NarrowError) = some true)
    (s_BadCells_Outside : PySem.W.subIn K (.ref C_BadCells) (.ref C_Outside) = some false)
    (s_NarrowError_BadBits : PySem.W.subIn K (.ref C_NarrowError) (.ref C_BadBits) = some false)
    (s_NarrowError_BadCells : PySem.W.subIn K (.ref C_NarrowError) (.ref C_BadCells) = some false)
    (s_NarrowError_NarrowError : PySem.W.subIn K (.ref C_NarrowError) (.ref C_NarrowError) = some true)
    (s_NarrowError_Outside : PySem.W.subIn K (.ref C_NarrowError) (.ref C_Outside) = some false)
    (s_Outside_BadBits : PySem.W.subIn K (.ref C_Outside) (.ref C_BadBits) = some false)
    (s_Outside_BadCells : PySem.W.subIn K (.ref C_Outside) (.ref C_BadCells) = some false)
    (s_Outside_NarrowError : PySem.W.subIn K (.ref C_Outside) (.ref C_NarrowError) = some true)
    (s_Outside_Outside : PySem.W.subIn K (.ref C_Outside) (.ref C_Outside) = some true)
    {c_law_both P_law_both : Addr} {e_law_both : Value} {dd_law_both : Option Addr} {vs_law_both : Array Value} {so_law_both : Array (Option Value)} (cd_law_both : cd26 = .ref c_law_both) (lc_law_both : K.lookup c_law_both = some ⟨e_law_both, dd_law_both, .fields vs_law_both, so_law_both⟩) (vp_law_both : vs_law_both[11]? = some (.ref P_law_both)) (np_law_both : K.lookup P_law_both = none) (ch_law_both : PySem.W.codeHdIn K c_law_both P_law_both = true) (em_law_both : h.get? P_law_both = some { cls := .none, data := .fields #[] })
    {c_law_opened P_law_opened : Addr} {e_law_opened : Value} {dd_law_opened : Option Addr} {vs_law_opened : Array Value} {so_law_opened : Array (Option Value)} (cd_law_opened : cd27 = .ref c_law_opened) (lc_law_opened : K.lookup c_law_opened = some ⟨e_law_opened, dd_law_opened, .fields vs_law_opened, so_law_opened⟩) (vp_law_opened : vs_law_opened[11]? = some (.ref P_law_opened)) (np_law_opened : K.lookup P_law_opened = none) (ch_law_opened : PySem.W.codeHdIn K c_law_opened P_law_opened = true) (em_law_opened : h.get? P_law_opened = some { cls := .none, data := .fields #[] })
    {c_law_sizes_right P_law_sizes_right : Addr} {e_law_sizes_right : Value} {dd_law_sizes_right : Option Addr} {vs_law_sizes_right : Array Value} {so_law_sizes_right : Array (Option Value)} (cd_law_sizes_right : cd28 = .ref c_law_sizes_right) (lc_law_sizes_right : K.lookup c_law_sizes_right = some ⟨e_law_sizes_right, dd_law_sizes_right, .fields vs_law_sizes_right, so_law_sizes_right⟩) (vp_law_sizes_right : vs_law_sizes_right[11]? = some (.ref P_law_sizes_right)) (np_law_sizes_right : K.lookup P_law_sizes_right = none) (ch_law_sizes_right : PySem.W.codeHdIn K c_law_sizes_right P_law_sizes_right = true) (em_law_sizes_right : h.get? P_law_sizes_right = some { cls := .none, data := .fields #[] })
    {c_law_fillings_right P_law_fillings_right : Addr} {e_law_fillings_right : Value} {dd_law_fillings_right : Option Addr} {vs_law_fillings_right : Array Value} {so_law_fillings_right : Array (Option Value)} (cd_law_fillings_right : cd31 = .ref c_law_fillings_right) (lc_law_fillings_right : K.lookup c_law_fillings_right = some ⟨e_law_fillings_right, dd_law_fillings_right, .fields vs_law_fillings_right, so_law_fillings_right⟩) (vp_law_fillings_right : vs_law_fillings_right[11]? = some (.ref P_law_fillings_right)) (np_law_fillings_right : K.lookup P_law_fillings_right = none) (ch_law_fillings_right : PySem.W.codeHdIn K c_law_fillings_right P_law_fillings_right = true) (em_law_fillings_right : h.get? P_law_fillings_right = some { cls := .none, data := .fields #[] })
    (df_law_both_law_opened : P_law_both ≠ P_law_opened)
    (df_law_both_law_sizes_right : P_law_both ≠ P_law_sizes_right)
    (df_law_both_law_fillings_right : P_law_both ≠ P_law_fillings_right)
    (df_law_opened_law_both : P_law_opened ≠ P_law_both)
    (df_law_opened_law_sizes_right : P_law_opened ≠ P_law_sizes_right)
    (df_law_opened_law_fillings_right : P_law_opened ≠ P_law_fillings_right)
    (df_law_sizes_right_law_both : P_law_sizes_right ≠ P_law_both)
    (df_law_sizes_right_law_opened : P_law_sizes_right ≠ P_law_opened)
    (df_law_sizes_right_law_fillings_right : P_law_sizes_right ≠ P_law_fillings_right)
    (df_law_fillings_right_law_both : P_law_fillings_right ≠ P_law_both)
    (df_law_fillings_right_law_opened : P_law_fillings_right ≠ P_law_opened)
    (df_law_fillings_right_law_sizes_right : P_law_fillings_right ≠ P_law_sizes_right)
    : LamX.LawAtS l w K (L2.CX l.prog w) 10 63 "_law_script" mg fa h := by
  have e := hfa.symm.trans (PySem.W.mg_of X G a32)
  cases e
  subst cd_law_both
  subst cd_law_opened
  subst cd_law_sizes_right
  subst cd_law_fillings_right
  have e_BadBits := exA_of (PySem.W.mg_of X G g_BadBits)
  have e_BadCells := exA_of (PySem.W.mg_of X G g_BadCells)
  have e_NarrowError := exA_of (PySem.W.mg_of X G g_NarrowError)
  have e_Outside := exA_of (PySem.W.mg_of X G g_Outside)
  have Z : Zs K mg := ⟨PySem.W.mg_none_of X G z_bool, PySem.W.mg_none_of X G z_divmod, PySem.W.mg_none_of X G z_enumerate, PySem.W.mg_none_of X G z_int, PySem.W.mg_none_of X G z_isinstance, PySem.W.mg_none_of X G z_len, PySem.W.mg_none_of X G z_list, PySem.W.mg_none_of X G z_max, PySem.W.mg_none_of X G z_min, PySem.W.mg_none_of X G z_range, PySem.W.mg_none_of X G z_sum, PySem.W.mg_none_of X G z_zip, ⟨_, PySem.W.mg_of X G e_CELL_SIZE⟩, ⟨_, PySem.W.mg_of X G e_CHECK_SIZE⟩, ⟨_, PySem.W.mg_of X G e_HIGHEST⟩, ⟨_, PySem.W.mg_of X G e_LOAD_SIZE⟩, ⟨_, PySem.W.mg_of X G e_MOST_BITS⟩, ⟨_, PySem.W.mg_of X G e_MOST_GROUP⟩, ⟨_, PySem.W.mg_of X G e_MOST_ZEROS⟩, ⟨_, PySem.W.mg_of X G e_STATES⟩, ⟨_, PySem.W.mg_of X G e_TURN⟩, ExF.mk' (PySem.W.mg_of X G g_BadBits) x0_BadBits x1_BadBits x2_BadBits x3_BadBits x4_BadBits x5_BadBits x6_BadBits x7_BadBits x8_BadBits x9_BadBits xa_BadBits, ExF.mk' (PySem.W.mg_of X G g_BadCells) x0_BadCells x1_BadCells x2_BadCells x3_BadCells x4_BadCells x5_BadCells x6_BadCells x7_BadCells x8_BadCells x9_BadCells xa_BadCells, ExF.mk' (PySem.W.mg_of X G g_NarrowError) x0_NarrowError x1_NarrowError x2_NarrowError x3_NarrowError x4_NarrowError x5_NarrowError x6_NarrowError x7_NarrowError x8_NarrowError x9_NarrowError xa_NarrowError, ExF.mk' (PySem.W.mg_of X G g_Outside) x0_Outside x1_Outside x2_Outside x3_Outside x4_Outside x5_Outside x6_Outside x7_Outside x8_Outside x9_Outside xa_Outside, (by rw [e_BadBits]; exact s_BadBits_BadBits), (by rw [e_BadBits]; exact kit_own x6_BadBits x3_BadBits s_BadBits_BadBits s_BadBits_BadBits), (by rw [e_BadBits, e_BadCells]; exact s_BadBits_BadCells), (by rw [e_BadBits, e_BadCells]; exact kit_own x6_BadCells x3_BadCells s_BadBits_BadCells s_BadBits_BadBits), (by rw [e_BadBits, e_NarrowError]; exact s_BadBits_NarrowError), (by rw [e_BadBits, e_NarrowError]; exact kit_own x6_NarrowError x3_NarrowError s_BadBits_NarrowError s_BadBits_BadBits), (by rw [e_BadBits, e_Outside]; exact s_BadBits_Outside), (by rw [e_BadBits, e_Outside]; exact kit_own x6_Outside x3_Outside s_BadBits_Outside s_BadBits_BadBits), (by rw [e_BadCells, e_BadBits]; exact s_BadCells_BadBits), (by rw [e_BadCells, e_BadBits]; exact kit_own x6_BadBits x3_BadBits s_BadCells_BadBits s_BadCells_BadCells), (by rw [e_BadCells]; exact s_BadCells_BadCells), (by rw [e_BadCells]; exact kit_own x6_BadCells x3_BadCells s_BadCells_BadCells s_BadCells_BadCells), (by rw [e_BadCells, e_NarrowError]; exact s_BadCells_NarrowError), (by rw [e_BadCells, e_NarrowError]; exact kit_own x6_NarrowError x3_NarrowError s_BadCells_NarrowError s_BadCells_BadCells), (by rw [e_BadCells, e_Outside]; exact s_BadCells_Outside), (by rw [e_BadCells, e_Outside]; exact kit_own x6_Outside x3_Outside s_BadCells_Outside s_BadCells_BadCells), (by rw [e_NarrowError, e_BadBits]; exact s_NarrowError_BadBits), (by rw [e_NarrowError, e_BadBits]; exact kit_own x6_BadBits x3_BadBits s_NarrowError_BadBits s_NarrowError_NarrowError), (by rw [e_NarrowError, e_BadCells]; exact s_NarrowError_BadCells), (by rw [e_NarrowError, e_BadCells]; exact kit_own x6_BadCells x3_BadCells s_NarrowError_BadCells s_NarrowError_NarrowError), (by rw [e_NarrowError]; exact s_NarrowError_NarrowError), (by rw [e_NarrowError]; exact kit_own x6_NarrowError x3_NarrowError s_NarrowError_NarrowError s_NarrowError_NarrowError), (by rw [e_NarrowError, e_Outside]; exact s_NarrowError_Outside), (by rw [e_NarrowError, e_Outside]; exact kit_own x6_Outside x3_Outside s_NarrowError_Outside s_NarrowError_NarrowError), (by rw [e_Outside, e_BadBits]; exact s_Outside_BadBits), (by rw [e_Outside, e_BadBits]; exact kit_own x6_BadBits x3_BadBits s_Outside_BadBits s_Outside_Outside), (by rw [e_Outside, e_BadCells]; exact s_Outside_BadCells), (by rw [e_Outside, e_BadCells]; exact kit_own x6_BadCells x3_BadCells s_Outside_BadCells s_Outside_Outside), (by rw [e_Outside, e_NarrowError]; exact s_Outside_NarrowError), (by rw [e_Outside, e_NarrowError]; exact kit_own x6_NarrowError x3_NarrowError s_Outside_NarrowError s_Outside_Outside), (by rw [e_Outside]; exact s_Outside_Outside), (by rw [e_Outside]; exact kit_own x6_Outside x3_Outside s_Outside_Outside s_Outside_Outside)⟩
  have F0 := fun_mk (st := s_is_bit) l0 c0 k0
  have F1 := fun_mk (st := s_check_bits) l1 c1 k1
  have F2 := fun_mk (st := s_number_of) l2 c2 k2
  have F3 := fun_mk (st := s_fixed) l3 c3 k3
  have F4 := fun_mk (st := s_count_at) l4 c4 k4
  have F5 := fun_mk (st := s_check_of) l5 c5 k5
  have F6 := fun_mk (st := s_want_group) l6 c6 k6
  have F7 := fun_mk (st := s_cut_up) l7 c7 k7
  have F8 := fun_mk (st := s_sum_of) l8 c8 k8
  have F9 := fun_mk (st := s_is_good) l9 c9 k9
  have F10 := fun_mk (st := s_cells_of) l10 c10 k10
  have F11 := fun_mk (st := s_good) l11 c11 k11
  have F12 := fun_mk (st := s_opened_group) l12 c12 k12
  have F13 := fun_mk (st := s_count_told) l13 c13 k13
  have F14 := fun_mk (st := s_open_cells) l14 c14 k14
  have F15 := fun_mk (st := s_law_pool) l15 c15 k15
  have F16 := fun_mk (st := s_law_take) l16 c16 k16
  have F17 := fun_mk (st := s_law_one) l17 c17 k17
  have F18 := fun_mk (st := s_law_count) l18 c18 k18
  have F19 := fun_mk (st := s_law_check) l19 c19 k19
  have F20 := fun_mk (st := s_law_sum) l20 c20 k20
  have F21 := fun_mk (st := s_law_cells) l21 c21 k21
  have F22 := fun_mk (st := s_law_loads) l22 c22 k22
  have F23 := fun_mk (st := s_law_joined) l23 c23 k23
  have F24 := fun_mk (st := s_law_bits) l24 c24 k24
  have F25 := fun_mk (st := s_law_heard) l25 c25 k25
  have F26 := fun_mk (st := s_law_both) l26 c26 k26
  have F27 := fun_mk (st := s_law_opened) l27 c27 k27
  have F28 := fun_mk (st := s_law_sizes_right) l28 c28 k28
  have F29 := fun_mk (st := s_law_counted) l29 c29 k29
  have F30 := fun_mk (st := s_law_counts_right) l30 c30 k30
  have F31 := fun_mk (st := s_law_fillings_right) l31 c31 k31
  have F32 := fun_mk (st := s_law) l32 c32 k32
  have hT : ∀ p ∈ ([(c_law_both, P_law_both), (c_law_opened, P_law_opened), (c_law_sizes_right, P_law_sizes_right), (c_law_fillings_right, P_law_fillings_right)] : List (Addr × Addr)), PySem.W.CodeHd h p.1 p.2 ∧ h.get? p.2 = some { cls := .none, data := .fields #[] } := by
    intro p hp
    simp only [List.mem_cons, List.not_mem_nil, or_false] at hp
    rcases hp with rfl | rfl | rfl | rfl
    · exact ⟨PySem.W.codeHd_of_K X ch_law_both, em_law_both⟩
    · exact ⟨PySem.W.codeHd_of_K X ch_law_opened, em_law_opened⟩
    · exact ⟨PySem.W.codeHd_of_K X ch_law_sizes_right, em_law_sizes_right⟩
    · exact ⟨PySem.W.codeHd_of_K X ch_law_fillings_right, em_law_fillings_right⟩
  have hN : ∀ p ∈ ([(c_law_both, P_law_both), (c_law_opened, P_law_opened), (c_law_sizes_right, P_law_sizes_right), (c_law_fillings_right, P_law_fillings_right)] : List (Addr × Addr)), K.lookup p.2 = none := by
    intro p hp
    simp only [List.mem_cons, List.not_mem_nil, or_false] at hp
    rcases hp with rfl | rfl | rfl | rfl
    · exact np_law_both
    · exact np_law_opened
    · exact np_law_sizes_right
    · exact np_law_fillings_right
  refine ⟨PySem.W.fnOf "law" "law" (defArgs s_law) (defBody s_law) (defScope s_law) .none kV32 dc32 pm32 an32 cd32 ct32, [(c_law_both, P_law_both), (c_law_opened, P_law_opened), (c_law_sizes_right, P_law_sizes_right), (c_law_fillings_right, P_law_fillings_right)], sp_law [(P_law_both, qLam "_law_both"), (P_law_opened, qLam "_law_opened"), (P_law_sizes_right, qLam "_law_sizes_right"), (P_law_fillings_right, qLam "_law_fillings_right")] K mg, fun p hp => (hT p hp).2, hN, fun p hp => (hT p hp).1, fun s v => .of_eq rfl, fun H a ns hl _ hH hS => law_start hl (fun t ht => ?_) hS, fun base _ _ hB => ?_⟩
  · simp only [List.mem_cons, List.not_mem_nil, or_false] at ht
    rcases ht with rfl | rfl | rfl | rfl
    · exact hH (c_law_both, P_law_both) (.head _)
    · exact hH (c_law_opened, P_law_opened) (.tail _ (.head _))
    · exact hH (c_law_sizes_right, P_law_sizes_right) (.tail _ (.tail _ (.head _)))
    · exact hH (c_law_fillings_right, P_law_fillings_right) (.tail _ (.tail _ (.tail _ (.head _))))
  have R_law_heard : OkG K mg "_law_heard" "_law_call" s_law_heard ["_law_call"] := ⟨_, _, F25, PySem.W.mg_of X G a25, F25.binds fun _ _ _ _ _ _ us hl => (match us, hl with | [_], _ => rfl), sc_law_heard⟩
  have R_number_of : Ok_number_of l.prog w K mg base := ⟨_, _, okx_number_of Z F2 (PySem.W.mg_of X G a2) ⟩
  have R_count_at : Ok_count_at l.prog w K mg base := ⟨_, _, okx_count_at Z F4 (PySem.W.mg_of X G a4) R_number_of⟩
  have R_count_told : Ok_count_told l.prog w K mg base := ⟨_, _, okx_count_told Z F13 (PySem.W.mg_of X G a13) R_count_at⟩
  have R_cut_up : Ok_cut_up l.prog w K mg base := ⟨_, _, okx_cut_up Z F7 (PySem.W.mg_of X G a7) ⟩
  have R_want_group : Ok_want_group l.prog w K mg base := ⟨_, _, okx_want_group Z F6 (PySem.W.mg_of X G a6) ⟩
  have R_is_bit : Ok_is_bit l.prog w K mg base := ⟨_, _, okx_is_bit Z F0 (PySem.W.mg_of X G a0) ⟩
  have R_check_bits : Ok_check_bits l.prog w K mg base := ⟨_, _, okx_check_bits Z F1 (PySem.W.mg_of X G a1) R_is_bit⟩
  have R_cells_of : Ok_cells_of l.prog w K mg base := ⟨_, _, okx_cells_of Z F10 (PySem.W.mg_of X G a10) R_cut_up R_want_group R_check_bits⟩
  have R_sum_of : Ok_sum_of l.prog w K mg base := ⟨_, _, okx_sum_of Z F8 (PySem.W.mg_of X G a8) ⟩
  have R_fixed : Ok_fixed l.prog w K mg base := ⟨_, _, okx_fixed Z F3 (PySem.W.mg_of X G a3) ⟩
  have R_check_of : Ok_check_of l.prog w K mg base := ⟨_, _, okx_check_of Z F5 (PySem.W.mg_of X G a5) R_fixed⟩
  have R_is_good : Ok_is_good l.prog w K mg base := ⟨_, _, okx_is_good Z F9 (PySem.W.mg_of X G a9) R_check_of⟩
  have R_opened_group : Ok_opened_group l.prog w K mg base := ⟨_, _, okx_opened_group Z F12 (PySem.W.mg_of X G a12) R_sum_of R_is_good⟩
  have R_open_cells : Ok_open_cells l.prog w K mg base := ⟨_, _, okx_open_cells Z F14 (PySem.W.mg_of X G a14) R_count_told R_cut_up R_cells_of R_opened_group⟩
  have R_law_joined : Ok_law_joined l.prog w K mg base := ⟨_, _, okx_law_joined Z F23 (PySem.W.mg_of X G a23) ⟩
  have R_law_sum : Ok_law_sum l.prog w K mg base := ⟨_, _, okx_law_sum Z F20 (PySem.W.mg_of X G a20) ⟩
  have R_law_check : Ok_law_check l.prog w K mg base := ⟨_, _, okx_law_check Z F19 (PySem.W.mg_of X G a19) ⟩
  have R_law_cells : Ok_law_cells l.prog w K mg base := ⟨_, _, okx_law_cells Z F21 (PySem.W.mg_of X G a21) R_law_sum R_law_check⟩
  have R_law_opened : Ok_law_opened [(P_law_both, qLam "_law_both"), (P_law_opened, qLam "_law_opened"), (P_law_sizes_right, qLam "_law_sizes_right"), (P_law_fillings_right, qLam "_law_fillings_right")] l.prog w K mg base := ⟨_, _, okx_law_opened (T := [(P_law_both, qLam "_law_both"), (P_law_opened, qLam "_law_opened"), (P_law_sizes_right, qLam "_law_sizes_right"), (P_law_fillings_right, qLam "_law_fillings_right")]) Z F27 (PySem.W.mg_of X G a27) (hB (c_law_opened, P_law_opened) (.tail _ (.head _))) rfl (.tail _ (.head _)) (by
      intro p hp e
      simp only [List.mem_cons, List.not_mem_nil, or_false] at hp
      rcases hp with rfl | rfl | rfl | rfl
      · exact absurd e df_law_both_law_opened
      · exact rfl
      · exact absurd e df_law_sizes_right_law_opened
      · exact absurd e df_law_fillings_right_law_opened) R_law_heard R_open_cells R_law_joined R_law_cells⟩
  have R_law_take : Ok_law_take l.prog w K mg base := ⟨_, _, okx_law_take Z F16 (PySem.W.mg_of X G a16) ⟩
  have R_law_count : Ok_law_count l.prog w K mg base := ⟨_, _, okx_law_count Z F18 (PySem.W.mg_of X G a18) ⟩
  have R_law_fillings_right : Ok_law_fillings_right [(P_law_both, qLam "_law_both"), (P_law_opened, qLam "_law_opened"), (P_law_sizes_right, qLam "_law_sizes_right"), (P_law_fillings_right, qLam "_law_fillings_right")] l.prog w K mg base := ⟨_, _, okx_law_fillings_right (T := [(P_law_both, qLam "_law_both"), (P_law_opened, qLam "_law_opened"), (P_law_sizes_right, qLam "_law_sizes_right"), (P_law_fillings_right, qLam "_law_fillings_right")]) Z F31 (PySem.W.mg_of X G a31) (hB (c_law_fillings_right, P_law_fillings_right) (.tail _ (.tail _ (.tail _ (.head _))))) rfl (.tail _ (.tail _ (.tail _ (.head _)))) (by
      intro p hp e
      simp only [List.mem_cons, List.not_mem_nil, or_false] at hp
      rcases hp with rfl | rfl | rfl | rfl
      · exact absurd e df_law_both_law_fillings_right
      · exact absurd e df_law_opened_law_fillings_right
      · exact absurd e df_law_sizes_right_law_fillings_right
      · exact rfl) R_law_heard R_open_cells R_law_joined R_law_cells R_law_opened R_law_take R_law_count⟩
  have R_law_counted : Ok_law_counted l.prog w K mg base := ⟨_, _, okx_law_counted Z F29 (PySem.W.mg_of X G a29) R_law_count⟩
  have R_law_counts_right : Ok_law_counts_right [(P_law_both, qLam "_law_both"), (P_law_opened, qLam "_law_opened"), (P_law_sizes_right, qLam "_law_sizes_right"), (P_law_fillings_right, qLam "_law_fillings_right")] l.prog w K mg base := ⟨_, _, okx_law_counts_right (T := [(P_law_both, qLam "_law_both"), (P_law_opened, qLam "_law_opened"), (P_law_sizes_right, qLam "_law_sizes_right"), (P_law_fillings_right, qLam "_law_fillings_right")]) Z F30 (PySem.W.mg_of X G a30) R_law_count R_law_opened R_law_counted⟩
  have R_good : Ok_good l.prog w K mg base := ⟨_, _, okx_good Z F11 (PySem.W.mg_of X G a11) R_cells_of R_is_good⟩
  have R_law_both : Ok_law_both [(P_law_both, qLam "_law_both"), (P_law_opened, qLam "_law_opened"), (P_law_sizes_right, qLam "_law_sizes_right"), (P_law_fillings_right, qLam "_law_fillings_right")] l.prog w K mg base := ⟨_, _, okx_law_both (T := [(P_law_both, qLam "_law_both"), (P_law_opened, qLam "_law_opened"), (P_law_sizes_right, qLam "_law_sizes_right"), (P_law_fillings_right, qLam "_law_fillings_right")]) Z F26 (PySem.W.mg_of X G a26) (hB (c_law_both, P_law_both) (.head _)) rfl (.head _) (by
      intro p hp e
      simp only [List.mem_cons, List.not_mem_nil, or_false] at hp
      rcases hp with rfl | rfl | rfl | rfl
      · exact rfl
      · exact absurd e df_law_opened_law_both
      · exact absurd e df_law_sizes_right_law_both
      · exact absurd e df_law_fillings_right_law_both) R_law_heard R_open_cells R_good⟩
  have R_law_one : Ok_law_one l.prog w K mg base := ⟨_, _, okx_law_one Z F17 (PySem.W.mg_of X G a17) R_law_take⟩
  have R_law_sizes_right : Ok_law_sizes_right [(P_law_both, qLam "_law_both"), (P_law_opened, qLam "_law_opened"), (P_law_sizes_right, qLam "_law_sizes_right"), (P_law_fillings_right, qLam "_law_fillings_right")] l.prog w K mg base := ⟨_, _, okx_law_sizes_right (T := [(P_law_both, qLam "_law_both"), (P_law_opened, qLam "_law_opened"), (P_law_sizes_right, qLam "_law_sizes_right"), (P_law_fillings_right, qLam "_law_fillings_right")]) Z F28 (PySem.W.mg_of X G a28) (hB (c_law_sizes_right, P_law_sizes_right) (.tail _ (.tail _ (.head _)))) rfl (.tail _ (.tail _ (.head _))) (by
      intro p hp e
      simp only [List.mem_cons, List.not_mem_nil, or_false] at hp
      rcases hp with rfl | rfl | rfl | rfl
      · exact absurd e df_law_both_law_sizes_right
      · exact absurd e df_law_opened_law_sizes_right
      · exact rfl
      · exact absurd e df_law_fillings_right_law_sizes_right) R_law_both R_law_one R_law_heard R_good R_law_take R_law_check R_law_joined⟩
  have R_law_loads : Ok_law_loads l.prog w K mg base := ⟨_, _, okx_law_loads Z F22 (PySem.W.mg_of X G a22) ⟩
  have R_law_bits : Ok_law_bits l.prog w K mg base := ⟨_, _, okx_law_bits Z F24 (PySem.W.mg_of X G a24) R_law_take R_law_count⟩
  have R_law_pool : Ok_law_pool l.prog w K mg base := ⟨_, _, okx_law_pool Z F15 (PySem.W.mg_of X G a15) ⟩
  exact (okx_law (T := [(P_law_both, qLam "_law_both"), (P_law_opened, qLam "_law_opened"), (P_law_sizes_right, qLam "_law_sizes_right"), (P_law_fillings_right, qLam "_law_fillings_right")]) (P := l.prog) (w := w) (base := base) Z F32 (PySem.W.mg_of X G a32) R_law_fillings_right R_law_counts_right R_law_sizes_right R_law_cells R_law_loads R_law_count R_law_take R_law_bits R_law_pool).G
theorem walk {l : PySem.W.OpenLaw} {q : Program} {loose : List Str} {XP : (Str → Option Value) → Heap → Prop} {YP : World → Heap → Prop} {d : DefRec} {K : Params → PySem.W.Frag} (hn : l.most = some 63) (hdf : d.params.defaults = [])
    (hY : ∀ (w : World) (h : Heap), YP w h → (K w.params).In h)
    (F : ∀ (w : World) (mg : Str → Option Value) (fa : Addr) (h : Heap), YP w h → (K w.params).In h → h.Ns mainGlobals mg → mg d.name = some (.ref fa) → LamX.LawAtS l w (K w.params) (L2.CX l.prog w) 10 63 "_law_script" mg fa h) :
    PySem.W.WalkO q loose XP YP l.row.toRowW d [] (fun f vs => PySem.call f vs) :=
  LamX.walk_ofTs (n := 63) (k := 10) (x := "_law_script") (CX := fun w => L2.CX l.prog w) hn (by decide) hdf ⟨rfl, by decide, by decide⟩ hY F fun _ _ _ _ _ z => cx_none z
end NB
open PySem PySem.W PyProof.Rows in
set_option maxRecDepth 100000 in
set_option maxHeartbeats 0 in
theorem PySem.Challenge.cw_narrowingbits_k62_cells_refused_holds : PySem.Challenge.rw_narrowingbits_k62_cells_refused.Holds := by
  w_on; o_law; k_head; (case hw => w_witness2)
  k_fill
  refine NB.walk (l := PySem.Challenge.rw_narrowingbits_k62_cells_refused) rfl rfl (fun w h Y => PySem.W.km_in_of Y) ?F
  case F =>
    intro w mg fa h Y KX G hmg
    refine' NB.all_mk KX G hmg ?a0 ?l0 ?c0 ?k0 ?a1 ?l1 ?c1 ?k1 ?a2 ?l2 ?c2 ?k2 ?a3 ?l3 ?c3 ?k3 ?a4 ?l4 ?c4 ?k4 ?a5 ?l5 ?c5 ?k5 ?a6 ?l6 ?c6 ?k6 ?a7 ?l7 ?c7 ?k7 ?a8 ?l8 ?c8 ?k8 ?a9 ?l9 ?c9 ?k9 ?a10 ?l10 ?c10 ?k10 ?a11 ?l11 ?c11 ?k11 ?a12 ?l12 ?c12 ?k12 ?a13 ?l13 ?c13 ?k13 ?a14 ?l14 ?c14 ?k14 ?a15 ?l15 ?c15 ?k15 ?a16 ?l16 ?c16 ?k16 ?a17 ?l17 ?c17 ?k17 ?a18 ?l18 ?c18 ?k18 ?a19 ?l19 ?c19 ?k19 ?a20 ?l20 ?c20 ?k20 ?a21 ?l21 ?c21 ?k21 ?a22 ?l22 ?c22 ?k22 ?a23 ?l23 ?c23 ?k23 ?a24 ?l24 ?c24 ?k24 ?a25 ?l25 ?c25 ?k25 ?a26 ?l26 ?c26 ?k26 ?a27 ?l27 ?c27 ?k27 ?a28 ?l28 ?c28 ?k28 ?a29 ?l29 ?c29 ?k29 ?a30 ?l30 ?c30 ?k30 ?a31 ?l31 ?c31 ?k31 ?a32 ?l32 ?c32 ?k32 ?z_bool ?z_divmod ?z_enumerate ?z_int ?z_isinstance ?z_len ?z_list ?z_max ?z_min ?z_range ?z_sum ?z_zip ?e_CELL_SIZE ?e_CHECK_SIZE ?e_HIGHEST ?e_LOAD_SIZE ?e_MOST_BITS ?e_MOST_GROUP ?e_MOST_ZEROS ?e_STATES ?e_TURN ?g_BadBits ?x0_BadBits ?x1_BadBits ?x2_BadBits ?x3_BadBits ?x4_BadBits ?x5_BadBits ?x6_BadBits ?x7_BadBits ?x8_BadBits ?x9_BadBits ?xa_BadBits ?g_BadCells ?x0_BadCells ?x1_BadCells ?x2_BadCells ?x3_BadCells ?x4_BadCells ?x5_BadCells ?x6_BadCells ?x7_BadCells ?x8_BadCells ?x9_BadCells ?xa_BadCells ?g_NarrowError ?x0_NarrowError ?x1_NarrowError ?x2_NarrowError ?x3_NarrowError ?x4_NarrowError ?x5_NarrowError ?x6_NarrowError ?x7_NarrowError ?x8_NarrowError ?x9_NarrowError ?xa_NarrowError ?g_Outside ?x0_Outside ?x1_Outside ?x2_Outside ?x3_Outside ?x4_Outside ?x5_Outside ?x6_Outside ?x7_Outside ?x8_Outside ?x9_Outside ?xa_Outside ?s_BadBits_BadBits ?s_BadBits_BadCells ?s_BadBits_NarrowError ?s_BadBits_Outside ?s_BadCells_BadBits ?s_BadCells_BadCells ?s_BadCells_NarrowError ?s_BadCells_Outside ?s_NarrowError_BadBits ?s_NarrowError_BadCells ?s_NarrowError_NarrowError ?s_NarrowError_Outside ?s_Outside_BadBits ?s_Outside_BadCells ?s_Outside_NarrowError ?s_Outside_Outside ?cd_law_both ?lc_law_both ?vp_law_both ?np_law_both ?ch_law_both ?em_law_both ?cd_law_opened ?lc_law_opened ?vp_law_opened ?np_law_opened ?ch_law_opened ?em_law_opened ?cd_law_sizes_right ?lc_law_sizes_right ?vp_law_sizes_right ?np_law_sizes_right ?ch_law_sizes_right ?em_law_sizes_right ?cd_law_fillings_right ?lc_law_fillings_right ?vp_law_fillings_right ?np_law_fillings_right ?ch_law_fillings_right ?em_law_fillings_right ?df_law_both_law_opened ?df_law_both_law_sizes_right ?df_law_both_law_fillings_right ?df_law_opened_law_both ?df_law_opened_law_sizes_right ?df_law_opened_law_fillings_right ?df_law_sizes_right_law_both ?df_law_sizes_right_law_opened ?df_law_sizes_right_law_fillings_right ?df_law_fillings_right_law_both ?df_law_fillings_right_law_opened ?df_law_fillings_right_law_sizes_right
    (case a0 => k_is)
    (case l0 => k_is)
    (case c0 => k_is)
    (case k0 => k_is)
    (case a1 => k_is)
    (case l1 => k_is)
    (case c1 => k_is)
    (case k1 => k_is)
    (case a2 => k_is)
    (case l2 => k_is)
    (case c2 => k_is)
    (case k2 => k_is)
    (case a3 => k_is)
    (case l3 => k_is)
    (case c3 => k_is)
    (case k3 => k_is)
    (case a4 => k_is)
    (case l4 => k_is)
    (case c4 => k_is)
    (case k4 => k_is)
    (case a5 => k_is)
    (case l5 => k_is)
    (case c5 => k_is)
    (case k5 => k_is)
    (case a6 => k_is)
    (case l6 => k_is)
    (case c6 => k_is)
    (case k6 => k_is)
    (case a7 => k_is)
    (case l7 => k_is)
    (case c7 => k_is)
    (case k7 => k_is)
    (case a8 => k_is)
    (case l8 => k_is)
    (case c8 => k_is)
    (case k8 => k_is)
    (case a9 => k_is)
    (case l9 => k_is)
    (case c9 => k_is)
    (case k9 => k_is)
    (case a10 => k_is)
    (case l10 => k_is)
    (case c10 => k_is)
    (case k10 => k_is)
    (case a11 => k_is)
    (case l11 => k_is)
    (case c11 => k_is)
    (case k11 => k_is)
    (case a12 => k_is)
    (case l12 => k_is)
    (case c12 => k_is)
    (case k12 => k_is)
    (case a13 => k_is)
    (case l13 => k_is)
    (case c13 => k_is)
    (case k13 => k_is)
    (case a14 => k_is)
    (case l14 => k_is)
    (case c14 => k_is)
    (case k14 => k_is)
    (case a15 => k_is)
    (case l15 => k_is)
    (case c15 => k_is)
    (case k15 => k_is)
    (case a16 => k_is)
    (case l16 => k_is)
    (case c16 => k_is)
    (case k16 => k_is)
    (case a17 => k_is)
    (case l17 => k_is)
    (case c17 => k_is)
    (case k17 => k_is)
    (case a18 => k_is)
    (case l18 => k_is)
    (case c18 => k_is)
    (case k18 => k_is)
    (case a19 => k_is)
    (case l19 => k_is)
    (case c19 => k_is)
    (case k19 => k_is)
    (case a20 => k_is)
    (case l20 => k_is)
    (case c20 => k_is)
    (case k20 => k_is)
    (case a21 => k_is)
    (case l21 => k_is)
    (case c21 => k_is)
    (case k21 => k_is)
    (case a22 => k_is)
    (case l22 => k_is)
    (case c22 => k_is)
    (case k22 => k_is)
    (case a23 => k_is)
    (case l23 => k_is)
    (case c23 => k_is)
    (case k23 => k_is)
    (case a24 => k_is)
    (case l24 => k_is)
    (case c24 => k_is)
    (case k24 => k_is)
    (case a25 => k_is)
    (case l25 => k_is)
    (case c25 => k_is)
    (case k25 => k_is)
    (case a26 => k_is)
    (case l26 => k_is)
    (case c26 => k_is)
    (case k26 => k_is)
    (case a27 => k_is)
    (case l27 => k_is)
    (case c27 => k_is)
    (case k27 => k_is)
    (case a28 => k_is)
    (case l28 => k_is)
    (case c28 => k_is)
    (case k28 => k_is)
    (case a29 => k_is)
    (case l29 => k_is)
    (case c29 => k_is)
    (case k29 => k_is)
    (case a30 => k_is)
    (case l30 => k_is)
    (case c30 => k_is)
    (case k30 => k_is)
    (case a31 => k_is)
    (case l31 => k_is)
    (case c31 => k_is)
    (case k31 => k_is)
    (case a32 => k_is)
    (case l32 => k_is)
    (case c32 => k_is)
    (case k32 => k_is)
    (case z_bool => k_is)
    (case z_divmod => k_is)
    (case z_enumerate => k_is)
    (case z_int => k_is)
    (case z_isinstance => k_is)
    (case z_len => k_is)
    (case z_list => k_is)
    (case z_max => k_is)
    (case z_min => k_is)
    (case z_range => k_is)
    (case z_sum => k_is)
    (case z_zip => k_is)
    (case e_CELL_SIZE => k_is)
    (case e_CHECK_SIZE => k_is)
    (case e_HIGHEST => k_is)
    (case e_LOAD_SIZE => k_is)
    (case e_MOST_BITS => k_is)
    (case e_MOST_GROUP => k_is)
    (case e_MOST_ZEROS => k_is)
    (case e_STATES => k_is)
    (case e_TURN => k_is)
    (case g_BadBits => k_is)
    (case x0_BadBits => k_exc)
    (case x1_BadBits => k_is)
    (case x2_BadBits => k_is)
    (case x3_BadBits => k_is)
    (case x4_BadBits => k_is)
    (case x5_BadBits => k_is)
    (case x6_BadBits => k_is)
    (case x7_BadBits => k_is)
    (case x8_BadBits => k_is)
    (case x9_BadBits => k_is)
    (case xa_BadBits => k_is)
    (case g_BadCells => k_is)
    (case x0_BadCells => k_exc)
    (case x1_BadCells => k_is)
    (case x2_BadCells => k_is)
    (case x3_BadCells => k_is)
    (case x4_BadCells => k_is)
    (case x5_BadCells => k_is)
    (case x6_BadCells => k_is)
    (case x7_BadCells => k_is)
    (case x8_BadCells => k_is)
    (case x9_BadCells => k_is)
    (case xa_BadCells => k_is)
    (case g_NarrowError => k_is)
    (case x0_NarrowError => k_exc)
    (case x1_NarrowError => k_is)
    (case x2_NarrowError => k_is)
    (case x3_NarrowError => k_is)
    (case x4_NarrowError => k_is)
    (case x5_NarrowError => k_is)
    (case x6_NarrowError => k_is)
    (case x7_NarrowError => k_is)
    (case x8_NarrowError => k_is)
    (case x9_NarrowError => k_is)
    (case xa_NarrowError => k_is)
    (case g_Outside => k_is)
    (case x0_Outside => k_exc)
    (case x1_Outside => k_is)
    (case x2_Outside => k_is)
    (case x3_Outside => k_is)
    (case x4_Outside => k_is)
    (case x5_Outside => k_is)
    (case x6_Outside => k_is)
    (case x7_Outside => k_is)
    (case x8_Outside => k_is)
    (case x9_Outside => k_is)
    (case xa_Outside => k_is)
    (case s_BadBits_BadBits => first | rfl | k_is)
    (case s_BadBits_BadCells => first | rfl | k_is)
    (case s_BadBits_NarrowError => first | rfl | k_is)
    (case s_BadBits_Outside => first | rfl | k_is)
    (case s_BadCells_BadBits => first | rfl | k_is)
    (case s_BadCells_BadCells => first | rfl | k_is)
    (case s_BadCells_NarrowError => first | rfl | k_is)
    (case s_BadCells_Outside => first | rfl | k_is)
    (case s_NarrowError_BadBits => first | rfl | k_is)
    (case s_NarrowError_BadCells => first | rfl | k_is)
    (case s_NarrowError_NarrowError => first | rfl | k_is)
    (case s_NarrowError_Outside => first | rfl | k_is)
    (case s_Outside_BadBits => first | rfl | k_is)
    (case s_Outside_BadCells => first | rfl | k_is)
    (case s_Outside_NarrowError => first | rfl | k_is)
    (case s_Outside_Outside => first | rfl | k_is)
    (case cd_law_both => rfl)
    (case lc_law_both => k_is)
    (case vp_law_both => rfl)
    (case np_law_both => kernel_rfl)
    (case ch_law_both => kernel_rfl)
    (case em_law_both => exact PySem.W.km_tabs_of Y _ (by simp))
    (case cd_law_opened => rfl)
    (case lc_law_opened => k_is)
    (case vp_law_opened => rfl)
    (case np_law_opened => kernel_rfl)
    (case ch_law_opened => kernel_rfl)
    (case em_law_opened => exact PySem.W.km_tabs_of Y _ (by simp))
    (case cd_law_sizes_right => rfl)
    (case lc_law_sizes_right => k_is)
    (case vp_law_sizes_right => rfl)
    (case np_law_sizes_right => kernel_rfl)
    (case ch_law_sizes_right => kernel_rfl)
    (case em_law_sizes_right => exact PySem.W.km_tabs_of Y _ (by simp))
    (case cd_law_fillings_right => rfl)
    (case lc_law_fillings_right => k_is)
    (case vp_law_fillings_right => rfl)
    (case np_law_fillings_right => kernel_rfl)
    (case ch_law_fillings_right => kernel_rfl)
    (case em_law_fillings_right => exact PySem.W.km_tabs_of Y _ (by simp))
    (case df_law_both_law_opened => decide)
    (case df_law_both_law_sizes_right => decide)
    (case df_law_both_law_fillings_right => decide)
    (case df_law_opened_law_both => decide)
    (case df_law_opened_law_sizes_right => decide)
    (case df_law_opened_law_fillings_right => decide)
    (case df_law_sizes_right_law_both => decide)
    (case df_law_sizes_right_law_opened => decide)
    (case df_law_sizes_right_law_fillings_right => decide)
    (case df_law_fillings_right_law_both => decide)
    (case df_law_fillings_right_law_opened => decide)
    (case df_law_fillings_right_law_sizes_right => decide)
#print axioms PySem.Challenge.cw_narrowingbits_k62_cells_refused_holds
