import PyProof.Rows.All
import Wide.All
import OpenK.AllK
import Wide.FinOn
import HandS.ForMost
import HandS.ForExc
import HandS.ExcIs
import HandS.IsInst
import HandS.Style
import HandS.FStr
import HandS.StrMore
import HandS.WideBits
import HandS.Walk
import PyProof.Rows.StrIntSpec
import PyProof.FString3
import PyProof.Rows.FStr
import PySem.Challenge.RW_narrowingbits_k03_long_ones_and_places
set_option Elab.async false
set_option maxRecDepth 100000
set_option maxHeartbeats 4000000
namespace NB
open PySem L2
/-! ### the frozen part, the steps -/
/-- from (F, H) to (F', H'): F is what stands still, H the whole; S: the cells that may be written -/
structure Stp (S : Addr → Prop) (F H F' H' : Hp) : Prop where
  ff : Same F F'
  fh : Same F' H'
  fo : ∀ b o, H b = some o → F' b = F b
  keep : ∀ b o, ¬ S b → H b = some o → H' b = some o
  dom : ∀ b o, H b = some o → ∃ o', H' b = some o'
abbrev S0 : Addr → Prop := fun _ => False
abbrev S1 (p : Addr) : Addr → Prop := fun b => b = p
section
variable {S S' : Addr → Prop} {F H F1 H1 F2 H2 : Hp} {p : Addr} {o o' : HO}
theorem Stp.rfl' (h : Same F H) : Stp S F H F H := ⟨Same.refl F, h, fun _ _ _ => rfl, fun _ _ _ e => e, fun _ o e => ⟨o, e⟩⟩
theorem Stp.trans (a : Stp S F H F1 H1) (b : Stp S F1 H1 F2 H2) : Stp S F H F2 H2 :=
  ⟨a.ff.trans b.ff, b.fh, fun c o e => by
    obtain ⟨o', e'⟩ := a.dom c o e
    rw [b.fo c o' e', a.fo c o e], fun c o n e => b.keep c o n (a.keep c o n e), fun c o e => by
    obtain ⟨o', e'⟩ := a.dom c o e
    exact b.dom c o' e'⟩
theorem Stp.sub (i : ∀ b, S b → S' b) (a : Stp S F H F1 H1) : Stp S' F H F1 H1 := ⟨a.ff, a.fh, a.fo, fun b o n e => a.keep b o (fun z => n (i b z)) e, a.dom⟩
theorem Stp.up (a : Stp S0 F H F1 H1) : Stp S F H F1 H1 := a.sub fun _ z => z.elim
theorem Stp.same (a : Stp S0 F H F1 H1) : Same H H1 := fun b o e => a.keep b o (fun z => z) e
/-- a new thing that will never change -/
theorem Stp.new (h : Same F H) (hp : H p = none) : Stp S F H (upd F p o) (upd H p o) := by
  have fp : F p = none := h.free hp
  refine ⟨fun b u e => ?_, fun b u e => ?_, fun b u e => ?_, fun b u _ e => ?_, fun b u e => ⟨u, ?_⟩⟩
  · rw [upd_ne (ne_of_none e fp)]; exact e
  · by_cases q : b = p
    · subst q; rw [upd_same] at e ⊢; exact e
    · rw [upd_ne q] at e ⊢; exact h b u e
  · rw [upd_ne (ne_of_none e hp)]
  · rw [upd_ne (ne_of_none e hp)]; exact e
  · rw [upd_ne (ne_of_none e hp)]; exact e
/-- a new cell -/
theorem Stp.cell (h : Same F H) (hp : H p = none) : Stp S F H F (upd H p o) :=
  ⟨Same.refl F, fun b u e => by rw [upd_ne (ne_of_none (h b u e) hp)]; exact h b u e, fun _ _ _ => rfl, fun b u _ e => by rw [upd_ne (ne_of_none e hp)]; exact e, fun b u e => ⟨u, by rw [upd_ne (ne_of_none e hp)]; exact e⟩⟩
/-- a cell written -/
theorem Stp.wr (h : Same F H) (hs : S p) (fp : F p = none) : Stp S F H F (upd H p o) :=
  ⟨Same.refl F, fun b u e => by
    have n : b ≠ p := fun q => by rw [q, fp] at e; cases e
    rw [upd_ne n]; exact h b u e, fun _ _ _ => rfl, fun b u n e => by
    have q : b ≠ p := fun z => n (z ▸ hs)
    rw [upd_ne q]; exact e, fun b u e => by
    by_cases q : b = p
    · exact ⟨o, by rw [q, upd_same]⟩
    · exact ⟨u, by rw [upd_ne q]; exact e⟩⟩
/-- a cell that was made here is written -/
theorem Stp.wrNew (a : Stp S F H F1 H1) (hn : H p = none) (fp : F1 p = none) : Stp S F H F1 (upd H1 p o) :=
  ⟨a.ff, fun b u e => by
    have n : b ≠ p := fun q => by rw [q, fp] at e; cases e
    rw [upd_ne n]; exact a.fh b u e, a.fo, fun b u n e => by
    rw [upd_ne (ne_of_none e hn)]; exact a.keep b u n e, fun b u e => by
    rw [upd_ne (ne_of_none e hn)]; exact a.dom b u e⟩
/-- a cell that was made here stands still from now on -/
theorem Stp.freeze (a : Stp S F H F1 H1) (hn : H p = none) (hp : H1 p = some o) (fp : F1 p = none) : Stp S F H (upd F1 p o) H1 :=
  ⟨fun b u e => by
    have e1 := a.ff b u e
    rw [upd_ne (ne_of_none e1 fp)]; exact e1, fun b u e => by
    by_cases q : b = p
    · subst q; rw [upd_same] at e; cases e; exact hp
    · rw [upd_ne q] at e; exact a.fh b u e, fun b u e => by
    rw [upd_ne (ne_of_none e hn)]; exact a.fo b u e, a.keep, a.dom⟩
theorem Stp.free (a : Stp S F H F1 H1) (hp : H p = some o) (fp : F p = none) : F1 p = none := (a.fo p o hp).trans fp
end
/-! ### a def that stands, with its promise -/
structure Fn (P : Program) (w : World) (K : PySem.W.Frag) (mg : Str → Option Value) (base : Heap) (CX : CXT) (k : Nat) (nm : Str) (st : Stmt) (f : Addr) (fd : FuncData) (ps : List Str) (sp : Sp) : Prop where
  G : FnOk P w K mg base CX k f fd ps sp
  m : mg nm = some (.ref f)
  kp : PySem.W.keepIn K (.ref f) = true
  b : Binds K fd ps []
  F : Fun K nm nm st f fd
/-! ### keywords -/
def gK {α : Type} (n m : Nat) (us ws : List α) : List α := if us.length = n ∧ ws.length = m then us ++ ws else []
theorem _root_.L2.Fun.kbinds {K : PySem.W.Frag} {x qual : Str} {st : Stmt} {f : Addr} {fd : FuncData} {ps : List Str} (F : Fun K x qual st f fd) (n : Nat) (ks : List Str) (hn : 0 < ps.length)
    (h : ∀ (kV doc pm : Value) (an : Option Addr) (cdv ct : Value) (us ws : List Value), us.length = n → ws.length = ks.length → bindArgs (PySem.W.fnOf x qual (defArgs st) (defBody st) (defScope st) .none kV doc pm an cdv ct) ⟨us, ks.zip ws⟩ = pure (ps.zip (us ++ ws))) :
    KBinds K fd ps ks (gK n ks.length) (gK n ks.length) := by
  obtain ⟨oc, od, kV, doc, pm, an, cdv, ct, osl, rfl, lk, hcd⟩ := F.ex
  refine ⟨fun s us ws _ hl => ?_, fun {vs us zs ws} r rz => ?_⟩
  · by_cases c : us.length = n ∧ ws.length = ks.length
    · have e : gK n ks.length us ws = us ++ ws := if_pos c
      rw [e]
      exact .of_eq (h kV doc pm an cdv ct us ws c.1 c.2)
    · have e : gK n ks.length us ws = [] := if_neg c
      rw [e] at hl
      exact absurd hl (by show ¬ 0 = ps.length; omega)
  · unfold gK
    by_cases c : us.length = n ∧ ws.length = ks.length
    · have c' : vs.length = n ∧ zs.length = ks.length := ⟨r.length.trans c.1, rz.length.trans c.2⟩
      rw [if_pos c, if_pos c']
      exact r.append rz
    · have c' : ¬ (vs.length = n ∧ zs.length = ks.length) := fun z => c ⟨r.length.symm.trans z.1, rz.length.symm.trans z.2⟩
      rw [if_neg c, if_neg c']
      exact .nil
def tCallK0 (sp : Sp) (gV : List V → List V → List V) (E : XK) (tk : TA) : TE := fun σ H Q => tk σ H fun zs H2 => sp (gV [] zs) H2 Q E
theorem pe_callK0 {X : Cx} {CX : CXT} {k : Nat} {f : Addr} {fd : FuncData} {ps ks : List Str} {sp : Sp} {E : XK} {x : Str} {p pos : Pos} {kws : List Keyword} {tk : TA} {g : List Value → List Value → List Value} {gV : List V → List V → List V}
    (F : FnOk X.prog X.w X.K X.mg X.base CX k f fd ps sp) (hr : Room k X.A) (hg : Gl X x) (hm : X.mg x = some (.ref f)) (hk : PySem.W.keepIn X.K (.ref f) = true) (hb : KBinds X.K fd ps ks g gV) (hx : Passes CX X E) (hkw : PK X kws tk)
    (hall : (backToKw pos (keywordEach kws X.env)).all (·.1.isSome) = true := by rfl) (hks : (backToKw pos (keywordEach kws X.env)).filterMap (·.1) = ks := by rfl) (hdb : (x == ("__debug__" : Str)) = false := by decide)
    (hpl : ((backTo pos (starEach [] X.env)).any (·.1) || (backToKw pos (keywordEach kws X.env)).any (·.1.isNone)) = false := by rfl) : PE X (.Call (.Name x p) [] kws pos) (tCallK0 sp gV E tk) := by
  refine ⟨fun pins s σ H Q I h => ?_⟩
  refine wpAny_Call_Name_kw (ld_glob I hg hm ?_ hdb)
  refine PySem.W.callWith_KW0 (h₀ := X.base) I.ok.mod.kin hk hall ?_ hpl
  refine thn (hkw.run pos pins s σ H _ I h) fun ws s2 ⟨zs, H2, I2, rz, q2⟩ => ⟨I2.kIn, ?_⟩
  rw [hks]
  exact run_fnk F hr hb hx I2 .nil rz q2
def SpN (n : Nat) (s : Sp) : Sp := fun vs H Q E => vs.length = n ∧ s vs H Q E
/-! ### rules under names -/
def rInt1 : List V → Hp → VK → Prop := fun xs H Q => (∃ i, xs = [.int i] ∧ Q (.int i) H) ∨ ∃ k, xs = [.bl k] ∧ Q (.int (if k then 1 else 0)) H
def rMax2 : List V → Hp → VK → Prop := fun xs H Q => ∃ i j, xs = [.int i, .int j] ∧ Q (.int (if j > i then j else i)) H
def rMin2 : List V → Hp → VK → Prop := fun xs H Q => ∃ i j, xs = [.int i, .int j] ∧ Q (.int (if j < i then j else i)) H
def rLen (K : PySem.W.Frag) : List V → Hp → VK → Prop := fun xs H Q => ∃ p ys, xs = [.ref p] ∧ (SqL K H p ys ∨ SqT K H p ys) ∧ Q (.int ys.length) H
section
variable {X : Cx}
theorem c_int1 : CallR X (.type "int") rInt1 := call_int1
theorem c_max2 (hc : X.calm = true) : CallR X (.builtin "max") rMax2 := call_max2 hc
theorem c_min2 (hc : X.calm = true) : CallR X (.builtin "min") rMin2 := call_min2 hc
theorem c_len (K : PySem.W.Frag) (e : X.K = K) : CallR X (.builtin "len") (rLen K) := by subst e; exact call_len_seq
theorem c_isi (K : PySem.W.Frag) (e : X.K = K) : CallR X (.builtin "isinstance") (rIsi K) := by subst e; exact call_isi
theorem i_list (K : PySem.W.Frag) (e : X.K = K) : IxR X (rIxL K) := by subst e; exact ix_list
theorem i_tup (K : PySem.W.Frag) (e : X.K = K) : IxR X (rIxT K) := by subst e; exact ix_tup
theorem o_and1 : OpR X (binaryOp .BitAnd) (fun x y H Q => ∃ i : Int, x = .int i ∧ y = .int 1 ∧ Q (.int (i % 2)) H) := by
  intro pins s σ H x y v u Q I rx ry h
  obtain ⟨i, rfl, rfl, q⟩ := h
  exact op_andM pins s σ H _ _ v u Q I rx ry ⟨i, 1, rfl, rfl, by simpa using q⟩
theorem l_list (K : PySem.W.Frag) (e : X.K = K) : SlR X (rSlL K) := by subst e; exact sl_list
theorem o_in (K : PySem.W.Frag) (e : X.K = K) : OpR X (compareOp .In) (rIn K false) := by subst e; exact op_in_seq
theorem o_notIn (K : PySem.W.Frag) (e : X.K = K) : OpR X (compareOp .NotIn) (rIn K true) := by subst e; exact op_notIn_seq
def rDivmod : List V → Hp → VK → Prop := fun xs H Q => ∃ i j, xs = [.int i, .int j] ∧ CDiv i j ∧ ∀ p, H p = none → Q (.ref p) (upd H p (.tup [.int (i / j), .int (i % j)]))
theorem c_divmod : CallR X (.builtin "divmod") rDivmod := call_divmod
theorem o_eqD (K : PySem.W.Frag) (e : X.K = K) (hu : X.A.units + 64 < cLine) : OpR X (compareOp .Eq) (rEqD K) := by subst e; exact op_eqD hu
theorem o_neD (K : PySem.W.Frag) (e : X.K = K) (hu : X.A.units + 64 < cLine) : OpR X (compareOp .NotEq) (rNeD K) := by subst e; exact op_neD hu
end
theorem sz {n : Nat} (h : n ≤ 100000) : n ≤ sizeLine := Nat.le_trans h (by decide)
/-! ### readings, step by step -/
section
variable {X : Cx} {K : PySem.W.Frag} {σ : L2.St} {H F : Hp} {Q : VK} {i : Nat} {v x y : V} {ta tb : TE} {r : R2}
theorem s_var (h : σ[i]? = some (some v)) (q : Q v H) : tVar i σ H Q := ⟨v, h, q⟩
theorem s_c (q : Q v H) : tC v σ H Q := q
theorem s_op (h : ta σ H fun x H1 => tb σ H1 fun y H2 => r x y H2 Q) : tOp r ta tb σ H Q := h
theorem s_I0 {g : Int → Int → V} {i j : Int} (q : Q (g i j) H) : rI0 g (.int i) (.int j) H Q := ⟨i, j, rfl, rfl, q⟩
theorem s_I {C : Int → Int → Prop} {g : Int → Int → V} {i j : Int} (c : C i j) (q : Q (g i j) H) : rI C g (.int i) (.int j) H Q := ⟨i, j, rfl, rfl, c, q⟩
theorem s_eq (h : scal x y = true) (q : Q (.bl (decide (x = y))) H) : rEq x y H Q := ⟨h, q⟩
theorem dec_int (i j : Int) : decide (V.int i = V.int j) = decide (i = j) := by by_cases h : i = j <;> simp [h]
theorem dec_str (i j : Str) : decide (V.str i = V.str j) = decide (i = j) := by by_cases h : i = j <;> simp [h]
theorem s_eqI {i j : Int} (q : Q (.bl (decide (i = j))) H) : rEq (.int i) (.int j) H Q := ⟨rfl, by rw [dec_int]; exact q⟩
theorem s_neI {i j : Int} (q : Q (.bl (!decide (i = j))) H) : rNe (.int i) (.int j) H Q := ⟨rfl, by rw [dec_int]; exact q⟩
theorem s_eqS {i j : Str} (q : Q (.bl (decide (i = j))) H) : rEq (.str i) (.str j) H Q := ⟨rfl, by rw [dec_str]; exact q⟩
theorem s_neS {i j : Str} (q : Q (.bl (!decide (i = j))) H) : rNe (.str i) (.str j) H Q := ⟨rfl, by rw [dec_str]; exact q⟩
theorem s_chain {r' : R2} {tc : TE} (h : ta σ H fun x H1 => tb σ H1 fun y H2 => r x y H2 fun z H3 => ∃ k, z = .bl k ∧ if k = true then tc σ H3 fun u H4 => r' y u H4 Q else Q (.bl false) H3) : tChain r r' ta tb tc σ H Q := by
  unfold tChain; exact h
theorem s_par3 {i j l : Nat} {ta : TA} {D : Ends} (h : ta σ H fun vs H1 => ∃ u v w, vs = [u, v, w] ∧ D.nx (((σ.set i (some u)).set j (some v)).set l (some w)) H1) : tPar3 i j l ta D σ H := h
theorem s_par {i j : Nat} {ta : TA} {D : Ends} (h : ta σ H fun vs H1 => ∃ v w, vs = [v, w] ∧ D.nx ((σ.set i (some v)).set j (some w)) H1) : tPar i j ta D σ H := h
theorem s_v2 {x y : V} {R : V → V → Prop} (h : R x y) : ∃ a b, [x, y] = [a, b] ∧ R a b := ⟨x, y, rfl, h⟩
theorem s_v3 {x y z : V} {R : V → V → V → Prop} (h : R x y z) : ∃ a b c, [x, y, z] = [a, b, c] ∧ R a b c := ⟨x, y, z, rfl, h⟩
theorem s_tup {t : TA} (h : t σ H fun xs H1 => xs.length ≤ sizeLine ∧ ∀ p, H1 p = none → Q (.ref p) (upd H1 p (.tup xs))) : tTup t σ H Q := h
theorem s_lst {t : TA} (h : t σ H fun xs H1 => xs.length ≤ sizeLine ∧ ∀ p, H1 p = none → Q (.ref p) (upd H1 p (.lst xs))) : tLst t σ H Q := h
theorem s_nil {Q : List V → Hp → Prop} (q : Q [] H) : tNil σ H Q := q
theorem s_cons {t : TA} {Q : List V → Hp → Prop} (h : ta σ H fun x H1 => t σ H1 fun xs H2 => Q (x :: xs) H2) : tCons ta t σ H Q := h
theorem s_call {sp : Sp} {dvs : List V} {E : XK} {t : TA} (h : t σ H fun vs H1 => sp (vs ++ dvs) H1 Q E) : tCall sp dvs E t σ H Q := h
theorem s_callK0 {sp : Sp} {gV : List V → List V → List V} {E : XK} {t : TA} (h : t σ H fun zs H1 => sp (gV [] zs) H1 Q E) : tCallK0 sp gV E t σ H Q := h
theorem s_callK {sp : Sp} {gV : List V → List V → List V} {E : XK} {t tk : TA} (h : t σ H fun vs H1 => tk σ H1 fun zs H2 => sp (gV vs zs) H2 Q E) : tCallK sp gV E t tk σ H Q := h
theorem s_bits (h : ta σ H fun x H1 => ∃ i, x = .int i ∧ Q (.int (Builtin.Int.intBits i : Nat)) H1) : tBits ta σ H Q := h
theorem s_i {i : Int} {R : Int → Prop} (h : R i) : ∃ j, V.int i = V.int j ∧ R j := ⟨i, rfl, h⟩
theorem s_bm {T : String} {r : V → List V → Hp → VK → Prop} {to : TE} {t : TA} (h : to σ H fun x H1 => tyV K T x H1 ∧ t σ H1 fun xs H2 => r x xs H2 Q) : tBM K T r to t σ H Q := h
theorem s_bm0 {T : String} {r : V → List V → Hp → VK → Prop} {to : TE} (h : to σ H fun x H1 => tyV K T x H1 ∧ r x [] H1 Q) : tBM0 K T r to σ H Q := h
theorem s_m1 {r : V → List V → Hp → VK → Prop} (h : ta σ H fun x H1 => (∃ a, x = .str a) ∧ tb σ H1 fun y H2 => r x [y] H2 Q) : tM1 r ta tb σ H Q := h
theorem s_cb {r : List V → Hp → VK → Prop} {t : TA} (h : t σ H fun vs H1 => r vs H1 Q) : tCB r t σ H Q := h
theorem s_test {Q : Bool → Hp → Prop} {t : TE} (h : t σ H fun x H' => ∃ k, x = .bl k ∧ Q k H') : tTest t σ H Q := h
theorem s_tB {Q : Bool → Hp → Prop} {t : TE} (h : t σ H fun x H' => ∃ k, x = .bl k ∧ Q k H') : tB t σ H Q := h
theorem s_bl {k : Bool} {Q : Bool → Hp → Prop} (q : Q k H) : ∃ k', V.bl k = .bl k' ∧ Q k' H := ⟨k, rfl, q⟩
theorem s_not {Q : Bool → Hp → Prop} {t : TT} (h : t σ H fun c H1 => Q (!c) H1) : tNot t σ H Q := h
theorem s_and {Q : Bool → Hp → Prop} {t u : TT} (h : t σ H fun c H1 => if c = true then u σ H1 Q else Q false H1) : tAnd t u σ H Q := h
theorem s_or {Q : Bool → Hp → Prop} {t u : TT} (h : t σ H fun c H1 => if c = true then Q true H1 else u σ H1 Q) : tOr t u σ H Q := h
theorem s_un {r : V → Hp → VK → Prop} (h : ta σ H fun x H1 => r x H1 Q) : tUn r ta σ H Q := h
theorem s_U {g : Int → V} {i : Int} (q : Q (g i) H) : rU g (.int i) H Q := ⟨i, rfl, q⟩
theorem s_int1 {i : Int} (q : Q (.int i) H) : rInt1 [.int i] H Q := .inl ⟨i, rfl, q⟩
theorem s_int1b {b : Bool} (q : Q (.int (if b then 1 else 0)) H) : rInt1 [.bl b] H Q := .inr ⟨b, rfl, q⟩
theorem s_ixL {p : Addr} {xs : List V} {i : Int} (h : SqL K H p xs) (a : atI xs i = some v) (q : Q v H) : rIxL K (.ref p) (.int i) H Q := ⟨p, xs, i, v, rfl, rfl, h, a, q⟩
theorem s_ixT {p : Addr} {xs : List V} {i : Int} (h : SqT K H p xs) (a : atI xs i = some v) (q : Q v H) : rIxT K (.ref p) (.int i) H Q := ⟨p, xs, i, v, rfl, rfl, h, a, q⟩
theorem s_len {p : Addr} {xs : List V} (h : SqL K H p xs) (q : Q (.int xs.length) H) : rLen K [V.ref p] H Q := ⟨p, xs, rfl, .inl h, q⟩
theorem s_lenT {p : Addr} {xs : List V} (h : SqT K H p xs) (q : Q (.int xs.length) H) : rLen K [V.ref p] H Q := ⟨p, xs, rfl, .inr h, q⟩
theorem s_max2 {i j : Int} (q : Q (.int (if j > i then j else i)) H) : rMax2 [.int i, .int j] H Q := ⟨i, j, rfl, q⟩
theorem s_min2 {i j : Int} (q : Q (.int (if j < i then j else i)) H) : rMin2 [.int i, .int j] H Q := ⟨i, j, rfl, q⟩
theorem s_isi {v : V} {n : String} {t : String} {b : Bool} (h : TyX K H v (.type t)) (e : kitB t n = some b) (q : Q (.bl b) H) : rIsi K [v, .ty n] H Q := ⟨v, .ty n, .type t, .type n, b, rfl, .ty n, h, kit_ty e, q⟩
theorem s_eqD {d e : PyData} (h1 : Dp K H x d) (h2 : Dp K H y e) (s1 : SeqAt.shaped d = true) (s2 : SeqAt.shaped e = true) (q : Q (.bl (PyData.eqv d e)) H) : rEqD K x y H Q := ⟨d, e, h1, h2, s1, s2, q⟩
theorem s_andV {c : Bool} (h : if c = true then tb σ H Q else Q (.bl false) H) : ∃ c', V.bl c = .bl c' ∧ if c' = true then tb σ H Q else Q (.bl false) H := ⟨c, rfl, h⟩
theorem s_andV0 (h : ta σ H fun x H1 => ∃ c, x = .bl c ∧ if c = true then tb σ H1 Q else Q (.bl false) H1) : tAndV ta tb σ H Q := h
theorem s_orV0 (h : ta σ H fun x H1 => ∃ c, x = .bl c ∧ if c = true then Q (.bl true) H1 else tb σ H1 Q) : tOrV ta tb σ H Q := h
theorem s_notV (h : ta σ H fun x H1 => ∃ c, x = .bl c ∧ Q (.bl (!c)) H1) : tNotV ta σ H Q := h
theorem s_b {c : Bool} {R : Bool → Prop} (h : R c) : ∃ c', V.bl c = V.bl c' ∧ R c' := ⟨c, rfl, h⟩
theorem s_gtup {n : Nat} {t : TGs} {a : Addr} {xs : List V} {R : L2.St → Hp → Prop} (h : SqT K H a xs) (e : xs.length = n) (q : t xs σ H R) : gTup K n t (.ref a) σ H R := ⟨a, xs, rfl, h, e, q⟩
theorem s_gcons {t : TG} {u : TGs} {r : List V} {R : L2.St → Hp → Prop} (q : t v σ H fun σ' H' => u r σ' H' R) : gCons t u (v :: r) σ H R := ⟨v, r, rfl, q⟩
theorem s_gnil {R : L2.St → Hp → Prop} (q : R σ H) : gNil [] σ H R := ⟨rfl, q⟩
theorem s_gsub {to ti : TE} {t : TSet} {R : L2.St → Hp → Prop} (h : to σ H fun o H1 => ti σ H1 fun i H2 => t o i v H2 fun H3 => R σ H3) : gSub to ti t v σ H R := h
theorem s_setL {p : Addr} {xs : List V} {i : Int} {j : Nat} {R : Hp → Prop} (h : H p = some (.lst xs)) (e : ixN xs.length i = some j) (q : R (upd H p (.lst (xs.set j v)))) : rSetL (.ref p) (.int i) v H R := ⟨p, xs, i, j, rfl, rfl, h, e, q⟩
theorem s_ifE {t : TT} (h : t σ H fun c H1 => if c = true then ta σ H1 Q else tb σ H1 Q) : tIf t ta tb σ H Q := h
variable {D : Ends} {t u : TS}
theorem s_seq (h : t { D with nx := u D } σ H) : tSeq t u D σ H := h
theorem s_next (h : D.nx σ H) : tNext D σ H := h
theorem s_asg {g : TG} (h : ta σ H fun x H1 => g x σ H1 D.nx) : tAsg ta g D σ H := h
theorem s_gname {R : L2.St → Hp → Prop} (h : R (σ.set i (some v)) H) : gName i v σ H R := h
theorem s_ret (h : ta σ H D.rt) : tRet ta D σ H := h
theorem s_if {c : TT} (h : c σ H fun b H1 => if b = true then t D σ H1 else u D σ H1) : tIfS c t u D σ H := h
theorem s_drop (h : ta σ H fun _ H1 => D.nx σ H1) : tDrop ta D σ H := h
/-- a loop over what stands -/
def forT (J : It) (g : TG) (tb : TS) : TS := tFor (fun _ H R => R J H) g tb
theorem s_for {wi : TI} {g : TG} {tb : TS} (h : wi σ H fun J H1 => forT J g tb D σ H1) : tFor wi g tb D σ H := h
theorem s_iR1 {ta : TA} {R : It → Hp → Prop} (h : ta σ H fun vs H1 => ∃ n : Int, vs = [.int n] ∧ -(2 ^ 62) ≤ n ∧ n < 2 ^ 62 ∧ R (Itr 0 n.toNat) H1) : iRng1 ta σ H R := h
theorem s_iR2 {ta : TA} {R : It → Hp → Prop} (h : ta σ H fun vs H1 => ∃ m n : Int, vs = [.int m, .int n] ∧ (-(2 ^ 62) ≤ m ∧ m < 2 ^ 62 ∧ -(2 ^ 62) ≤ n ∧ n < 2 ^ 62) ∧ R (Itr m (n - m).toNat) H1) : iRng2 ta σ H R := h
theorem s_iL {R : It → Hp → Prop} (h : ta σ H fun x H1 => ∃ a, x = .ref a ∧ (∃ xs, SqL K H1 a xs) ∧ R (Itl K a) H1) : iList K ta σ H R := h
theorem s_iT {R : It → Hp → Prop} (h : ta σ H fun x H1 => ∃ a, x = .ref a ∧ (∃ xs, SqT K H1 a xs) ∧ R (Itt K a) H1) : iTup K ta σ H R := h
theorem s_iS {R : It → Hp → Prop} (h : ta σ H fun x H1 => ∃ z, x = .str z ∧ R (Its z) H1) : iStr ta σ H R := h
theorem forW {J : It} {n : Nat} {G : Hp → Prop} {Y : Nat → Hp → V → Hp → Prop} {g : TG} {tb : TS} (w : Walk J n G Y) (Pv : Nat → L2.St → Hp → Prop) (h0 : Pv 0 σ H) (hG : ∀ i σ H, i ≤ n → Pv i σ H → G H)
    (hs : ∀ i x σ H H', i < n → Pv i σ H → Y i H x H' → g x σ H' fun σ2 H2 => tb { D with nx := Pv (i + 1), ct := Pv (i + 1), bk := D.nx } σ2 H2) (hd : ∀ σ H, Pv n σ H → D.nx σ H) : forT J g tb D σ H := for_it w Pv h0 hG hs hd
theorem forR {lo : Int} {n : Nat} {g : TG} {tb : TS} (Pv : Nat → L2.St → Hp → Prop) (h0 : Pv 0 σ H) (hs : ∀ i σ H, i < n → Pv i σ H → g (.int (lo + i)) σ H fun σ2 H2 => tb { D with nx := Pv (i + 1), ct := Pv (i + 1), bk := D.nx } σ2 H2)
    (hd : ∀ σ H, Pv n σ H → D.nx σ H) : forT (Itr lo n) g tb D σ H := for_range Pv h0 hs hd
theorem forL {a : Addr} {xs : List V} {g : TG} {tb : TS} (Pv : Nat → L2.St → Hp → Prop) (h0 : Pv 0 σ H) (hl : ∀ i σ H, i ≤ xs.length → Pv i σ H → SqL K H a xs)
    (hs : ∀ i x σ H, xs[i]? = some x → Pv i σ H → g x σ H fun σ2 H2 => tb { D with nx := Pv (i + 1), ct := Pv (i + 1), bk := D.nx } σ2 H2) (hd : ∀ σ H, Pv xs.length σ H → D.nx σ H) : forT (Itl K a) g tb D σ H := for_list Pv h0 hl hs hd
/-- a comprehension over what stands -/
def lcT (J : It) (g : TG) (tt : TT) (te : TE) (vs : List Nat) : TE := tLc (fun _ H R => R J H) g tt te vs
theorem s_lc {wi : TI} {g : TG} {tt : TT} {te : TE} {vs : List Nat} (h : wi σ H fun J H1 => lcT J g tt te vs σ H1 Q) : tLc wi g tt te vs σ H Q := h
theorem s_sl {r : V → Option Int → Option Int → Hp → VK → Prop} {tl th : TO} (h : ta σ H fun x H1 => tl σ H1 fun l H2 => th σ H2 fun u H3 => r x l u H3 Q) : tSl r ta tl th σ H Q := h
theorem s_part {R : Option Int → Hp → Prop} (h : ta σ H fun x H1 => ∃ i, x = .int i ∧ R (some i) H1) : tPart ta σ H R := h
theorem s_nopart {R : Option Int → Hp → Prop} (h : R none H) : tNoPart σ H R := h
theorem s_slL {p : Addr} {xs : List V} {l u : Option Int} (h : SqL K H p xs) (q : ∀ p', H p' = none → Q (.ref p') (upd H p' (.lst (cutV xs l u)))) : rSlL K (.ref p) l u H Q := ⟨p, xs, rfl, h, q⟩
theorem s_iR3 {ta : TA} {R : It → Hp → Prop} (h : ta σ H fun vs H1 => ∃ (i j c : Int) (n : Nat), vs = [.int i, .int j, .int c] ∧ RgC i j c n ∧ R (Itc i c n) H1) : iRng3 ta σ H R := h
theorem rgc_up {L k : Int} (hL : 0 ≤ L) (hL2 : L < 2 ^ 62) (hk : 0 < k) (hk2 : k < 1073741824) : RgC 0 L k ((L + k - 1) / k).toNat := by
  have e : Builtin.Range.rangeSize 0 L k = (((L + k - 1) / k).toNat : Int) := by
    unfold Builtin.Range.rangeSize
    rw [if_pos hk]
    have h0 : 0 ≤ (L + k - 1) / k := Int.ediv_nonneg (by omega) (by omega)
    split
    · rw [show L + k - 1 = (L - 0 - 1) + k by omega, Int.add_ediv_of_dvd_right (Int.dvd_refl k), Int.ediv_self (by omega)]
      have : 0 ≤ (L - 0 - 1) / k := Int.ediv_nonneg (by omega) (by omega)
      omega
    · have : L = 0 := by omega
      subst this
      rw [Int.ediv_eq_zero_of_lt (by omega) (by omega)]; rfl
  refine ⟨by omega, by omega, ?_, e⟩
  have hb : (L + k - 1) / k ≤ L + k - 1 := Int.ediv_le_self _ (by omega)
  unfold Builtin.Range.small
  rw [e]
  simp only [Builtin.Range.rangeFitsLong, Bool.and_eq_true, Bool.or_eq_true, decide_eq_true_eq, beq_iff_eq, show (k > 0) = True from eq_true hk, if_true]
  omega
theorem s_wipe {σ2 : L2.St} {vs : List Nat} {R : Prop} (h : wipe σ2 vs = wipe σ vs) (q : R) : wipe σ2 vs = wipe σ vs ∧ R := ⟨h, q⟩
theorem s_yes {Q : Bool → Hp → Prop} (q : Q true H) : tYes σ H Q := q
/-- within a comprehension: what has been made so far stands at D -/
structure LcP (S : Addr → Prop) (F H : Hp) (Dd : Addr) (R : Nat → List V → Hp → Hp → Prop) (i : Nat) (Hc : Hp) : Prop where
  ex : ∃ Fc acc, Stp S F H Fc Hc ∧ Fc Dd = none ∧ Hc Dd = some (.lst acc) ∧ acc.length ≤ i ∧ R i acc Fc Hc
  fresh : H Dd = none
theorem lcW {J : It} {n : Nat} {G : Hp → Prop} {Y : Nat → Hp → V → Hp → Prop} {g : TG} {tt : TT} {te : TE} {vs : List Nat} (w : Walk J n G Y) (S : Addr → Prop) (hF : Same F H) (hS : ∀ b, S b → ∃ o, H b = some o)
    (hG : ∀ F1 H1, Stp S F H F1 H1 → G H1) (R : Nat → List V → Hp → Hp → Prop) (hR : ∀ i acc F1 H1 d o, ¬ S d → F1 d = none → Stp S F H F1 H1 → R i acc F1 H1 → R i acc F1 (upd H1 d o)) (h0 : R 0 [] F H)
    (hs : ∀ i x acc d F1 H1 H2, i < n → Y i H1 x H2 → H d = none → ¬ S d → Stp S F H F1 H1 → F1 d = none → H1 d = some (.lst acc) → acc.length ≤ i → R i acc F1 H1 → g x (wipe σ vs) H2 fun σ2 H3 => wipe σ2 vs = wipe σ vs ∧ tt σ2 H3 fun b H4 =>
      if b = true then te σ2 H4 fun y H5 => ∃ acc', H5 d = some (.lst acc') ∧ acc'.length < sizeLine ∧ LcP S F H d R (i + 1) (upd H5 d (.lst (acc' ++ [y]))) else LcP S F H d R (i + 1) H4)
    (hd : ∀ d acc F0 F1 H1, Stp S F H F0 H1 → H d = none → F0 d = none → F1 = upd F0 d (.lst acc) → Stp S F H F1 H1 → acc.length ≤ n → R n acc F0 H1 → Q (.ref d) H1) : lcT J g tt te vs σ H Q := by
  intro d hd0
  have nS : ¬ S d := fun z => by
    obtain ⟨o, e⟩ := hS d z
    rw [hd0] at e; cases e
  refine lc_it w (LcP S F H d R) ⟨⟨F, [], Stp.cell hF hd0, hF.free hd0, upd_same, Nat.le_refl _, hR 0 [] F H d _ nS (hF.free hd0) (.rfl' hF) h0⟩, hd0⟩ (fun i H1 _ p => ?_) (fun i x H1 H2 hi p y => ?_) (fun H1 p => ?_)
  · obtain ⟨⟨Fc, acc, st, _⟩, _⟩ := p
    exact hG _ _ st
  · obtain ⟨⟨Fc, acc, st, f0, e, hl, r⟩, _⟩ := p
    exact hs i x acc d Fc H1 H2 hi y hd0 nS st f0 e hl r
  · obtain ⟨⟨Fc, acc, st, f0, e, hl, r⟩, _⟩ := p
    exact hd d acc Fc _ H1 st hd0 f0 rfl (st.freeze hd0 e f0) hl r
theorem lc_end {S : Addr → Prop} {R : Nat → List V → Hp → Hp → Prop} {i : Nat} {acc : List V} {d : Addr} {F1 H1 F4 H4 : Hp} {y : V} (hN : H d = none) (nS : ¬ S d) (st : Stp S F H F1 H1) (f0 : F1 d = none) (e : H1 d = some (.lst acc)) (hl : acc.length ≤ i) (hi : i < 100000)
    (s4 : Stp S F1 H1 F4 H4) (r : R (i + 1) (acc ++ [y]) F4 (upd H4 d (.lst (acc ++ [y])))) : ∃ acc', H4 d = some (.lst acc') ∧ acc'.length < sizeLine ∧ LcP S F H d R (i + 1) (upd H4 d (.lst (acc' ++ [y]))) :=
  ⟨acc, s4.keep _ _ nS e, Nat.lt_of_lt_of_le (Nat.lt_of_le_of_lt hl hi) (by decide), ⟨⟨F4, acc ++ [y], (st.trans s4).wrNew hN ((s4.fo _ _ e).trans f0), (s4.fo _ _ e).trans f0, upd_same, by simp; omega, r⟩, hN⟩⟩
theorem lc_skip {S : Addr → Prop} {R : Nat → List V → Hp → Hp → Prop} {i : Nat} {acc : List V} {d : Addr} {F1 H1 F4 H4 : Hp} (hN : H d = none) (nS : ¬ S d) (st : Stp S F H F1 H1) (f0 : F1 d = none) (e : H1 d = some (.lst acc)) (hl : acc.length ≤ i)
    (s4 : Stp S F1 H1 F4 H4) (r : R (i + 1) acc F4 H4) : LcP S F H d R (i + 1) H4 := ⟨⟨F4, acc, st.trans s4, (s4.fo _ _ e).trans f0, s4.keep _ _ nS e, by omega, r⟩, hN⟩
theorem ifd {p A B : Prop} [Decidable p] (a : p → A) (b : ¬ p → B) : if decide p = true then A else B := by
  by_cases h : p
  · rw [if_pos (decide_eq_true h)]; exact a h
  · rw [if_neg (by simp [h])]; exact b h
theorem itNF {A B : Prop} (h : B) : if (!true) = true then A else B := h
theorem itNT {A B : Prop} (h : A) : if (!false) = true then A else B := h
theorem ifn {p A B : Prop} [Decidable p] (a : p → B) (b : ¬ p → A) : if (!decide p) = true then A else B := by
  by_cases h : p
  · rw [if_neg (by simp [h])]; exact a h
  · rw [if_pos (by simp [h])]; exact b h
end
theorem eqv_ints (u v : Int) : PyData.eqv (.tuple [.int u, .int v]) (.tuple [.int u, .int v]) = true := by simp [PyData.eqv, PyData.eqvAll]
/-! ### tests that may be weakened (for while) -/
def MonE (t : TE) : Prop := ∀ σ H (Q Q' : VK), (∀ v H1, Q v H1 → Q' v H1) → t σ H Q → t σ H Q'
def MonT (t : TT) : Prop := ∀ σ H (Q Q' : Bool → Hp → Prop), (∀ b H1, Q b H1 → Q' b H1) → t σ H Q → t σ H Q'
def MonA (t : TA) : Prop := ∀ σ H (Q Q' : List V → Hp → Prop), (∀ vs H1, Q vs H1 → Q' vs H1) → t σ H Q → t σ H Q'
def MonR (r : R2) : Prop := ∀ x y H (Q Q' : VK), (∀ v H1, Q v H1 → Q' v H1) → r x y H Q → r x y H Q'
theorem mon_var {i : Nat} : MonE (tVar i) := fun _ _ _ _ h ⟨v, e, q⟩ => ⟨v, e, h _ _ q⟩
theorem mon_c {v : V} : MonE (tC v) := fun _ _ _ _ h q => h _ _ q
theorem mon_op {r : R2} {a b : TE} (hr : MonR r) (ha : MonE a) (hb : MonE b) : MonE (tOp r a b) := fun σ _ _ _ h q => ha _ _ _ _ (fun x H1 q1 => hb _ _ _ _ (fun y H2 q2 => hr _ _ _ _ _ h q2) q1) q
theorem mon_I0 {g : Int → Int → V} : MonR (rI0 g) := fun _ _ _ _ _ h ⟨i, j, e1, e2, q⟩ => ⟨i, j, e1, e2, h _ _ q⟩
theorem mon_I {C : Int → Int → Prop} {g : Int → Int → V} : MonR (rI C g) := fun _ _ _ _ _ h ⟨i, j, e1, e2, c, q⟩ => ⟨i, j, e1, e2, c, h _ _ q⟩
theorem mon_eq : MonR rEq := fun _ _ _ _ _ h ⟨e, q⟩ => ⟨e, h _ _ q⟩
theorem mon_ne : MonR rNe := fun _ _ _ _ _ h ⟨e, q⟩ => ⟨e, h _ _ q⟩
theorem mon_ixL {K : PySem.W.Frag} : MonR (rIxL K) := fun _ _ _ _ _ h ⟨p, xs, i, v, e1, e2, s, a, q⟩ => ⟨p, xs, i, v, e1, e2, s, a, h _ _ q⟩
theorem mon_nil : MonA tNil := fun _ _ _ _ h q => h _ _ q
theorem mon_cons {a : TE} {t : TA} (ha : MonE a) (ht : MonA t) : MonA (tCons a t) := fun σ _ _ _ h q => ha _ _ _ _ (fun x H1 q1 => ht _ _ _ _ (fun xs H2 q2 => h _ _ q2) q1) q
theorem mon_len {K : PySem.W.Frag} {t : TA} (ht : MonA t) : MonE (tCB (rLen K) t) := fun σ _ _ _ h q => ht _ _ _ _ (fun vs H1 ⟨p, ys, e, s, q1⟩ => ⟨p, ys, e, s, h _ _ q1⟩) q
theorem mon_test {a : TE} (ha : MonE a) : MonT (tTest a) := fun σ _ _ _ h q => ha _ _ _ _ (fun x H1 ⟨k, e, q1⟩ => ⟨k, e, h _ _ q1⟩) q
theorem mon_and {a b : TT} (ha : MonT a) (hb : MonT b) : MonT (tAnd a b) := fun σ _ _ _ h q => ha _ _ _ _ (fun c H1 q1 => by
  cases c with
  | true => exact hb _ _ _ _ h q1
  | false => exact h _ _ q1) q
theorem whileM {D : Ends} {σ : L2.St} {H : Hp} {c : TT} {tb : TS} (m : MonT c) (Pv : L2.St → Hp → Prop) (μ : L2.St → Hp → Nat) (h0 : Pv σ H)
    (hs : ∀ σ H, Pv σ H → c σ H fun b H1 => if b = true then tb { D with nx := fun σ' H' => Pv σ' H' ∧ μ σ' H' < μ σ H, ct := fun σ' H' => Pv σ' H' ∧ μ σ' H' < μ σ H, bk := D.nx } σ H1 else D.nx σ H1) : tWhile c tb D σ H := while_by Pv μ h0 hs m
/-! ### data compared: lists and tuples of numbers -/
open PyData in
theorem depthAll_ints : ∀ ns : List Int, depthAll (ns.map PyData.int) ≤ 1
  | [] => by simp [depthAll]
  | n :: ns => by
    have := depthAll_ints ns
    simp only [List.map_cons, depthAll, depth]
    omega
open PyData in
theorem canLay_ints : ∀ ns : List Int, canLayAll0 (ns.map PyData.int) = true
  | [] => rfl
  | n :: ns => by simp [canLayAll0, canLay0, canLay_ints ns]
theorem shaped_ints (ns : List Int) : SeqAt.shaped (.list (ns.map .int)) = true := by
  have h := depthAll_ints ns
  have e : (PyData.list (ns.map .int)).depth = PyData.depthAll (ns.map .int) + 1 := by rw [PyData.depth]
  exact Bool.and_eq_true_iff.mpr ⟨by rw [PyData.canLay0]; exact canLay_ints ns, decide_eq_true (by rw [e]; omega)⟩
theorem shaped_intsT (ns : List Int) : SeqAt.shaped (.tuple (ns.map .int)) = true := by
  have h := depthAll_ints ns
  have e : (PyData.tuple (ns.map .int)).depth = PyData.depthAll (ns.map .int) + 1 := by rw [PyData.depth]
  exact Bool.and_eq_true_iff.mpr ⟨by rw [PyData.canLay0]; exact canLay_ints ns, decide_eq_true (by rw [e]; omega)⟩
open PyData in
theorem eqvAll_ints : ∀ ns ms : List Int, eqvAll (ns.map PyData.int) (ms.map PyData.int) = decide (ns = ms)
  | [], [] => rfl
  | [], _ :: _ => by simp [eqvAll]
  | _ :: _, [] => by simp [eqvAll]
  | n :: ns, m :: ms => by
    simp only [List.map_cons, eqvAll, eqv, eqvAll_ints ns ms]
    by_cases h : n = m <;> by_cases h2 : ns = ms <;> simp [h, h2]
theorem eqv_intsL (ns ms : List Int) : PyData.eqv (.list (ns.map .int)) (.list (ms.map .int)) = decide (ns = ms) := by rw [PyData.eqv, eqvAll_ints]
theorem eqv_intsT (ns ms : List Int) : PyData.eqv (.tuple (ns.map .int)) (.tuple (ms.map .int)) = decide (ns = ms) := by rw [PyData.eqv, eqvAll_ints]
theorem dp_all_ints {K : PySem.W.Frag} {H : Hp} : ∀ ns : List Int, DpAll K H (ns.map V.int) (ns.map .int)
  | [] => .nil
  | n :: ns => .cons (.int n) (dp_all_ints ns)
theorem dp_ints {K : PySem.W.Frag} {H : Hp} {a : Addr} {ns : List Int} (h : SqL K H a (ns.map V.int)) : Dp K H (.ref a) (.list (ns.map .int)) := .lst h (dp_all_ints ns)
theorem dp_intsT {K : PySem.W.Frag} {H : Hp} {a : Addr} {ns : List Int} (h : SqT K H a (ns.map V.int)) : Dp K H (.ref a) (.tuple (ns.map .int)) := .tup h (dp_all_ints ns)
/-- two lists of numbers compared -/
theorem s_eqL {K : PySem.W.Frag} {H : Hp} {Q : VK} {a b : Addr} {ns ms : List Int} (h1 : SqL K H a (ns.map V.int)) (h2 : SqL K H b (ms.map V.int)) (q : Q (.bl (decide (ns = ms))) H) : rEqD K (.ref a) (.ref b) H Q :=
  s_eqD (dp_ints h1) (dp_ints h2) (shaped_ints _) (shaped_ints _) (by rw [eqv_intsL]; exact q)
theorem s_neL {K : PySem.W.Frag} {H : Hp} {Q : VK} {a b : Addr} {ns ms : List Int} (h1 : SqL K H a (ns.map V.int)) (h2 : SqL K H b (ms.map V.int)) (q : Q (.bl (!decide (ns = ms))) H) : rNeD K (.ref a) (.ref b) H Q :=
  ⟨_, _, dp_ints h1, dp_ints h2, shaped_ints _, shaped_ints _, by rw [eqv_intsL]; exact q⟩
theorem s_eqT {K : PySem.W.Frag} {H : Hp} {Q : VK} {a b : Addr} {ns ms : List Int} (h1 : SqT K H a (ns.map V.int)) (h2 : SqT K H b (ms.map V.int)) (q : Q (.bl (decide (ns = ms))) H) : rEqD K (.ref a) (.ref b) H Q :=
  s_eqD (dp_intsT h1) (dp_intsT h2) (shaped_intsT _) (shaped_intsT _) (by rw [eqv_intsT]; exact q)
theorem s_neT {K : PySem.W.Frag} {H : Hp} {Q : VK} {a b : Addr} {ns ms : List Int} (h1 : SqT K H a (ns.map V.int)) (h2 : SqT K H b (ms.map V.int)) (q : Q (.bl (!decide (ns = ms))) H) : rNeD K (.ref a) (.ref b) H Q :=
  ⟨_, _, dp_intsT h1, dp_intsT h2, shaped_intsT _, shaped_intsT _, by rw [eqv_intsT]; exact q⟩
theorem rep_int (n k : Nat) (b : Int) : (List.replicate n [V.int b]).flatten = (List.replicate n b).map V.int := by induction n <;> simp_all [List.replicate_succ]
theorem get_int {ns : List Int} {i : Nat} (h : i < ns.length) : (ns.map V.int)[i]? = some (V.int ns[i]) := by simp [h]
/-- what a call left behind: a new thing that stands still from now on -/
theorem Stp.got {S : Addr → Prop} {F H H' : Hp} {p : Addr} {o : HO} (h : Same F H) (s : Same H H') (hn : H p = none) (hp : H' p = some o) : Stp S F H (upd F p o) H' := by
  have fp : F p = none := h.free hn
  refine ⟨fun b u e => by rw [upd_ne (ne_of_none e fp)]; exact e, fun b u e => ?_, fun b u e => by rw [upd_ne (ne_of_none e hn)], fun b u _ e => s b u e, fun b u e => ⟨u, s b u e⟩⟩
  by_cases q : b = p
  · subst q; rw [upd_same] at e; cases e; exact hp
  · rw [upd_ne q] at e; exact s b u (h b u e)
open PyData in
theorem depthAll_bools : ∀ ns : List Bool, depthAll (ns.map PyData.bool) ≤ 1
  | [] => by simp [depthAll]
  | n :: ns => by
    have := depthAll_bools ns
    simp only [List.map_cons, depthAll, depth]
    omega
open PyData in
theorem canLay_bools : ∀ ns : List Bool, canLayAll0 (ns.map PyData.bool) = true
  | [] => rfl
  | n :: ns => by simp [canLayAll0, canLay0, canLay_bools ns]
theorem shaped_bools (ns : List Bool) : SeqAt.shaped (.list (ns.map .bool)) = true := by
  have h := depthAll_bools ns
  have e : (PyData.list (ns.map .bool)).depth = PyData.depthAll (ns.map .bool) + 1 := by rw [PyData.depth]
  exact Bool.and_eq_true_iff.mpr ⟨by rw [PyData.canLay0]; exact canLay_bools ns, decide_eq_true (by rw [e]; omega)⟩
open PyData in
theorem eqvAll_bools : ∀ ns ms : List Bool, eqvAll (ns.map PyData.bool) (ms.map PyData.bool) = decide (ns = ms)
  | [], [] => rfl
  | [], _ :: _ => by simp [eqvAll]
  | _ :: _, [] => by simp [eqvAll]
  | n :: ns, m :: ms => by
    simp only [List.map_cons, eqvAll, eqv, eqvAll_bools ns ms]
    by_cases h : n = m <;> by_cases h2 : ns = ms <;> simp [h, h2]
theorem eqv_boolsL (ns ms : List Bool) : PyData.eqv (.list (ns.map .bool)) (.list (ms.map .bool)) = decide (ns = ms) := by rw [PyData.eqv, eqvAll_bools]
theorem dp_all_bools {K : PySem.W.Frag} {H : Hp} : ∀ ns : List Bool, DpAll K H (ns.map V.bl) (ns.map .bool)
  | [] => .nil
  | n :: ns => .cons (.bl n) (dp_all_bools ns)
theorem dp_bools {K : PySem.W.Frag} {H : Hp} {a : Addr} {ns : List Bool} (h : SqL K H a (ns.map V.bl)) : Dp K H (.ref a) (.list (ns.map .bool)) := .lst h (dp_all_bools ns)
theorem s_neB {K : PySem.W.Frag} {H : Hp} {Q : VK} {a b : Addr} {ns ms : List Bool} (h1 : SqL K H a (ns.map V.bl)) (h2 : SqL K H b (ms.map V.bl)) (q : Q (.bl (!decide (ns = ms))) H) : rNeD K (.ref a) (.ref b) H Q :=
  ⟨_, _, dp_bools h1, dp_bools h2, shaped_bools _, shaped_bools _, by rw [eqv_boolsL]; exact q⟩
theorem eqV_int (i j : Int) : eqV (.int i) (.int j) = decide (i = j) := by
  show (i == j) = decide (i = j)
  by_cases h : i = j <;> simp [h]
theorem inV_ints (x : Int) (ns : List Int) : inV (.int x) (ns.map V.int) = decide (x ∈ ns) := by
  unfold inV
  induction ns with
  | nil => simp
  | cons n ns ih =>
    rw [List.map_cons, List.any_cons, ih, eqV_int]
    by_cases h : n = x
    · subst h; simp
    · by_cases h2 : x ∈ ns
      · simp [h2]
      · have : ¬ x = n := fun z => h z.symm
        simp [h, h2, this]
theorem flat_ints (ns : List Int) : (ns.map V.int).all flatV = true := by
  rw [List.all_eq_true]; intro v hv
  obtain ⟨n, _, rfl⟩ := List.mem_map.mp hv
  rfl
/-- a number in a list of numbers -/
theorem s_inI {K : PySem.W.Frag} {H : Hp} {Q : VK} {a : Addr} {ns : List Int} {x : Int} (h : SqL K H a (ns.map V.int)) (q : Q (.bl (decide (x ∈ ns))) H) : rIn K false (.int x) (.ref a) H Q :=
  ⟨a, _, rfl, .inl h, rfl, flat_ints ns, by rw [if_neg (by decide), inV_ints]; exact q⟩
theorem cutV_nat (xs : List V) (i j : Nat) : cutV xs (some (i : Int)) (some (j : Int)) = (xs.drop i).take (j - i) := by
  unfold cutV
  rw [HT.sIx_nat, HT.sIx_nat]
  by_cases h : i ≤ xs.length
  · rw [Nat.min_eq_left h]
    by_cases h2 : j ≤ xs.length
    · rw [Nat.min_eq_left h2]
    · rw [Nat.min_eq_right (by omega), List.take_of_length_le (by simp), List.take_of_length_le (by simp; omega)]
  · rw [Nat.min_eq_right (show xs.length ≤ i by omega), List.drop_of_length_le (Nat.le_refl _), List.drop_of_length_le (by omega)]; simp
theorem cutV_from (xs : List V) (i : Nat) : cutV xs (some (i : Int)) none = xs.drop i := by
  unfold cutV
  rw [HT.sIx_nat, HT.sIx_none]
  by_cases h : i ≤ xs.length
  · rw [Nat.min_eq_left h, List.take_of_length_le (by simp)]
  · rw [Nat.min_eq_right (by omega), List.drop_of_length_le (by omega), List.drop_of_length_le (by omega)]; simp
theorem cutV_to (xs : List V) (j : Nat) : cutV xs none (some (j : Int)) = xs.take j := by
  unfold cutV
  rw [HT.sIx_nat, HT.sIx_none]
  by_cases h2 : j ≤ xs.length
  · rw [Nat.min_eq_left h2]; simp
  · rw [Nat.min_eq_right (by omega), List.take_of_length_le (by simp), List.take_of_length_le (by omega)]; simp
/-- values without parts, as data -/
def toD : V → PyData
  | .bl b => .bool b
  | .int i => .int i
  | .str s => .str s
  | _ => .none
def flatW (v : V) : Bool := match v with
  | .non => true
  | .bl _ => true
  | .int _ => true
  | .str s => PyData.strOk s
  | _ => false
theorem dp_flat {K : PySem.W.Frag} {H : Hp} {v : V} (h : flatW v = true) : Dp K H v (toD v) := by
  cases v with
  | non => exact .non
  | bl b => exact .bl b
  | int i => exact .int i
  | str s => exact .str s
  | _ => cases h
theorem dp_flats {K : PySem.W.Frag} {H : Hp} : ∀ {vs : List V}, vs.all flatW = true → DpAll K H vs (vs.map toD)
  | [], _ => .nil
  | v :: vs, h => by
    rw [List.all_cons, Bool.and_eq_true] at h
    exact .cons (dp_flat h.1) (dp_flats h.2)
open PyData in
theorem depthAll_flat : ∀ vs : List V, depthAll (vs.map toD) ≤ 1
  | [] => by simp [depthAll]
  | n :: ns => by
    have := depthAll_flat ns
    have e : depth (toD n) = 0 := by cases n <;> simp [toD, depth]
    simp only [List.map_cons, depthAll, e]
    omega
open PyData in
theorem canLay_flat : ∀ vs : List V, vs.all flatW = true → canLayAll0 (vs.map toD) = true
  | [], _ => rfl
  | n :: ns, h => by
    rw [List.all_cons, Bool.and_eq_true] at h
    have e : canLay0 (toD n) = true := by
      cases n with
      | str s => exact h.1
      | _ => rfl
    simp [canLayAll0, e, canLay_flat ns h.2]
theorem shaped_flatT {vs : List V} (h : vs.all flatW = true) : SeqAt.shaped (.tuple (vs.map toD)) = true := by
  have h1 := depthAll_flat vs
  have e : (PyData.tuple (vs.map toD)).depth = PyData.depthAll (vs.map toD) + 1 := by rw [PyData.depth]
  exact Bool.and_eq_true_iff.mpr ⟨by rw [PyData.canLay0]; exact canLay_flat vs h, decide_eq_true (by rw [e]; omega)⟩
/-- two equal tuples compared -/
theorem s_neTs {K : PySem.W.Frag} {H : Hp} {Q : VK} {a b : Addr} {vs : List V} (h1 : SqT K H a vs) (h2 : SqT K H b vs) (f : vs.all flatW = true) (q : Q (.bl false) H) : rNeD K (.ref a) (.ref b) H Q :=
  ⟨_, _, .tup h1 (dp_flats f), .tup h2 (dp_flats f), shaped_flatT f, shaped_flatT f, by rw [SeqAt.eqv_refl _ (SeqAt.canLay_of_shaped (shaped_flatT f))]; exact q⟩
theorem s_eqTs {K : PySem.W.Frag} {H : Hp} {Q : VK} {a b : Addr} {vs : List V} (h1 : SqT K H a vs) (h2 : SqT K H b vs) (f : vs.all flatW = true) (q : Q (.bl true) H) : rEqD K (.ref a) (.ref b) H Q :=
  ⟨_, _, .tup h1 (dp_flats f), .tup h2 (dp_flats f), shaped_flatT f, shaped_flatT f, by rw [SeqAt.eqv_refl _ (SeqAt.canLay_of_shaped (shaped_flatT f))]; exact q⟩
/-- a written list of one thing, so many times -/
theorem s_rep {H : Hp} {Q : VK} {l : Addr} {v : V} {k : Int} (h : H l = some (.lst [v])) (k1 : k ≤ 100000) (k0 : -100000 ≤ k) (q : ∀ p, H p = none → Q (.ref p) (upd H p (.lst (List.replicate k.toNat v)))) : rRep (.ref l) (.int k) H Q := by
  have e : (List.replicate k.toNat [v]).flatten = List.replicate k.toNat v := by
    generalize k.toNat = n
    induction n with
    | zero => rfl
    | succ n ih => rw [List.replicate_succ, List.flatten_cons, ih]; rfl
  have hz : 1 * k.toNat ≤ sizeLine := by rw [Nat.one_mul]; exact sz (by omega)
  exact ⟨l, k, [v], rfl, rfl, h, by omega, by omega, hz, fun p hp => by rw [e]; exact q p hp⟩
/-- lists of lists of numbers -/
def RowV (K : PySem.W.Frag) (H : Hp) (v : V) (l : List Int) : Prop := ∃ a, v = .ref a ∧ SqL K H a (l.map V.int)
inductive RowsV (K : PySem.W.Frag) (H : Hp) : List V → List (List Int) → Prop
  | nil : RowsV K H [] []
  | cons {v : V} {vs : List V} {l : List Int} {ls : List (List Int)} : RowV K H v l → RowsV K H vs ls → RowsV K H (v :: vs) (l :: ls)
theorem RowsV.dp {K : PySem.W.Frag} {H : Hp} : ∀ {vs : List V} {ls : List (List Int)}, RowsV K H vs ls → DpAll K H vs (ls.map fun l => .list (l.map .int))
  | _, _, .nil => .nil
  | _, _, .cons ⟨a, e, h⟩ r => .cons (e ▸ dp_ints h) r.dp
open PyData in
theorem depthAll_rows : ∀ ls : List (List Int), depthAll (ls.map fun l => PyData.list (l.map .int)) ≤ 2
  | [] => by simp [depthAll]
  | l :: ls => by
    have h1 := depthAll_rows ls
    have h2 := depthAll_ints l
    simp only [List.map_cons, depthAll, depth]
    omega
open PyData in
theorem canLay_rows : ∀ ls : List (List Int), canLayAll0 (ls.map fun l => PyData.list (l.map .int)) = true
  | [] => rfl
  | l :: ls => by simp [canLayAll0, canLay0, canLay_ints, canLay_rows ls]
theorem shaped_rows (ls : List (List Int)) : SeqAt.shaped (.list (ls.map fun l => .list (l.map .int))) = true := by
  have h := depthAll_rows ls
  have e : (PyData.list (ls.map fun l => PyData.list (l.map .int))).depth = PyData.depthAll (ls.map fun l => PyData.list (l.map .int)) + 1 := by rw [PyData.depth]
  exact Bool.and_eq_true_iff.mpr ⟨by rw [PyData.canLay0]; exact canLay_rows ls, decide_eq_true (by rw [e]; omega)⟩
theorem s_eqRows {K : PySem.W.Frag} {H : Hp} {Q : VK} {a b : Addr} {xs ys : List V} {ls : List (List Int)} (h1 : SqL K H a xs) (h2 : SqL K H b ys) (r1 : RowsV K H xs ls) (r2 : RowsV K H ys ls) (q : Q (.bl true) H) : rEqD K (.ref a) (.ref b) H Q :=
  s_eqD (.lst h1 r1.dp) (.lst h2 r2.dp) (shaped_rows ls) (shaped_rows ls) (by rw [SeqAt.eqv_refl _ (SeqAt.canLay_of_shaped (shaped_rows ls))]; exact q)
theorem s_neRows {K : PySem.W.Frag} {H : Hp} {Q : VK} {a b : Addr} {xs ys : List V} {ls : List (List Int)} (h1 : SqL K H a xs) (h2 : SqL K H b ys) (r1 : RowsV K H xs ls) (r2 : RowsV K H ys ls) (q : Q (.bl false) H) : rNeD K (.ref a) (.ref b) H Q :=
  ⟨_, _, .lst h1 r1.dp, .lst h2 r2.dp, shaped_rows ls, shaped_rows ls, by rw [SeqAt.eqv_refl _ (SeqAt.canLay_of_shaped (shaped_rows ls))]; exact q⟩
/-- lists of flat tuples -/
def TupV (K : PySem.W.Frag) (H : Hp) (v : V) (l : List V) : Prop := ∃ a, v = .ref a ∧ SqT K H a l ∧ l.all flatW = true
inductive TupsV (K : PySem.W.Frag) (H : Hp) : List V → List (List V) → Prop
  | nil : TupsV K H [] []
  | cons {v : V} {vs : List V} {l : List V} {ls : List (List V)} : TupV K H v l → TupsV K H vs ls → TupsV K H (v :: vs) (l :: ls)
theorem TupsV.dp {K : PySem.W.Frag} {H : Hp} : ∀ {vs : List V} {ls : List (List V)}, TupsV K H vs ls → DpAll K H vs (ls.map fun l => .tuple (l.map toD))
  | _, _, .nil => .nil
  | _, _, .cons ⟨_, e, h, f⟩ r => .cons (e ▸ .tup h (dp_flats f)) r.dp
open PyData in
theorem depthAll_tups : ∀ ls : List (List V), depthAll (ls.map fun l => PyData.tuple (l.map toD)) ≤ 2
  | [] => by simp [depthAll]
  | l :: ls => by
    have h1 := depthAll_tups ls
    have h2 := depthAll_flat l
    simp only [List.map_cons, depthAll, depth]
    omega
open PyData in
theorem canLay_tups {K : PySem.W.Frag} {H : Hp} : ∀ {vs : List V} {ls : List (List V)}, TupsV K H vs ls → canLayAll0 (ls.map fun l => PyData.tuple (l.map toD)) = true
  | _, _, .nil => rfl
  | _, _, .cons ⟨_, _, _, f⟩ r => by simp [canLayAll0, canLay0, canLay_flat _ f, canLay_tups r]
theorem shaped_tups {K : PySem.W.Frag} {H : Hp} {vs : List V} {ls : List (List V)} (r : TupsV K H vs ls) : SeqAt.shaped (.list (ls.map fun l => .tuple (l.map toD))) = true := by
  have h := depthAll_tups ls
  have e : (PyData.list (ls.map fun l => PyData.tuple (l.map toD))).depth = PyData.depthAll (ls.map fun l => PyData.tuple (l.map toD)) + 1 := by rw [PyData.depth]
  exact Bool.and_eq_true_iff.mpr ⟨by rw [PyData.canLay0]; exact canLay_tups r, decide_eq_true (by rw [e]; omega)⟩
theorem s_eqTups {K : PySem.W.Frag} {H : Hp} {Q : VK} {a b : Addr} {xs ys : List V} {ls : List (List V)} (h1 : SqL K H a xs) (h2 : SqL K H b ys) (r1 : TupsV K H xs ls) (r2 : TupsV K H ys ls) (q : Q (.bl true) H) : rEqD K (.ref a) (.ref b) H Q :=
  s_eqD (.lst h1 r1.dp) (.lst h2 r2.dp) (shaped_tups r1) (shaped_tups r2) (by rw [SeqAt.eqv_refl _ (SeqAt.canLay_of_shaped (shaped_tups r1))]; exact q)
theorem s_neTups {K : PySem.W.Frag} {H : Hp} {Q : VK} {a b : Addr} {xs ys : List V} {ls : List (List V)} (h1 : SqL K H a xs) (h2 : SqL K H b ys) (r1 : TupsV K H xs ls) (r2 : TupsV K H ys ls) (q : Q (.bl false) H) : rNeD K (.ref a) (.ref b) H Q :=
  ⟨_, _, .lst h1 r1.dp, .lst h2 r2.dp, shaped_tups r1, shaped_tups r2, by rw [SeqAt.eqv_refl _ (SeqAt.canLay_of_shaped (shaped_tups r1))]; exact q⟩
/-! ### a list to draw from: [a great number, a number that is stirred] -/
def Src (F H : Hp) (p : Addr) : Prop := Same F H ∧ F p = none ∧ ∃ a b : Int, H p = some (.lst [.int a, .int b]) ∧ 0 ≤ b ∧ b < 2147483647
theorem Src.of {F H H' : Hp} {p : Addr} (h : Src F H p) (s : Same H H') : Src F H' p := let ⟨a, b, x, y, e, z⟩ := h; ⟨a.trans s, b, x, y, s _ _ e, z⟩
theorem Src.wr {F H : Hp} {p : Addr} {x y : Int} (h : Src F H p) (y0 : 0 ≤ y) (y1 : y < 2147483647) : Src F (upd H p (.lst [.int x, .int y])) p :=
  ⟨(Stp.wr (S := S1 p) h.1 rfl h.2.1).fh, h.2.1, x, y, upd_same, y0, y1⟩
theorem Src.weak {F F' H : Hp} {p : Addr} (h : Src F' H p) (s : Same F F') : Src F H p := let ⟨a, b, x⟩ := h; ⟨s.trans a, s.free b, x⟩
theorem Src.new {F H : Hp} {p q : Addr} {o : HO} (h : Src F H p) (hq : H q = none) : Src (upd F q o) (upd H q o) p := by
  obtain ⟨a, b, x, y, e, z⟩ := h
  have n : p ≠ q := ne_of_none e hq
  exact ⟨(Stp.new (S := S0) a hq).fh, by rw [upd_ne n]; exact b, x, y, by rw [upd_ne n]; exact e, z⟩
/-- a cell beside it is written -/
theorem Src.upd {F H : Hp} {p q : Addr} {o : HO} (h : Src F H p) (n : q ≠ p) (fq : F q = none) : Src F (upd H q o) p := by
  obtain ⟨a, b, x, y, e, z⟩ := h
  exact ⟨(Stp.wr (S := S1 q) a rfl fq).fh, b, x, y, by rw [upd_ne n.symm]; exact e, z⟩
theorem Src.dom {F H : Hp} {p : Addr} (h : Src F H p) : ∃ o, H p = some o := let ⟨_, _, x, y, e, _⟩ := h; ⟨_, e⟩
theorem Src.frz {F H : Hp} {p d : Addr} {o : HO} (h : Src F H p) (n : p ≠ d) (fh : Same (L2.upd F d o) H) : Src (L2.upd F d o) H p := by
  obtain ⟨a, b, x, y, e, z⟩ := h
  exact ⟨fh, by rw [upd_ne n]; exact b, x, y, e, z⟩
theorem Src.ne {F H : Hp} {p d : Addr} (h : Src F H p) (hd : H d = none) : p ≠ d := by
  obtain ⟨o, e⟩ := h.dom
  exact ne_of_none e hd
/-- behind a draw: what stands beside the cell is as it was -/
def Drawn (p : Addr) (F H H' : Hp) : Prop := Src F H' p ∧ Stp (S1 p) F H F H'
section SecFmt
open PySem PySem.Spec PyProof.Rows L2
/-- the binary digits of a number that is not negative, as a text -/
def binText (n : Nat) : Str := ⟨((Nat.toDigits 2 n).map Char.toNat).toArray⟩
def fB : Builtin.Float.FormatSpec := { align := 62, type := some 98 }
theorem parseB : Builtin.Float.parseFormatSpec (Str.ofString "b").cps.toList "int" 62 = Except.ok fB := by rfl
section
variable {prog : Program} {w : World} {A : Around} {E : Value → Shared → Prop} {s : Shared}
theorem ite_no {β : Type} {M : Model} {c : Prop} [Decidable c] {x y : Sem β} {Q : β → Shared → Prop} (h : ¬ c) (q : wpAny M A y Q E s) : wpAny M A (if c then x else y) Q E s := by rw [if_neg h]; exact q
theorem field_b {a : Int} {t : Tok} {Q : Value → Shared → Prop} (h0 : 0 ≤ a) (hl : (Nat.toDigits 2 a.natAbs).length ≤ 100000)
    (h : Q (.str (binText a.natAbs) (s.toks + 1)) { s with toks := s.toks + 1 + 1 }) : wpAny (model prog w) A (formatField (.int a t) (Str.ofString "b")) Q E s := by
  show wpAny _ _ (holding [.int a t] (pyFormat (.int a t) (Str.ofString "b"))) Q E s
  refine wpAny_holding ?_
  unfold pyFormat
  refine wpAny_bind (wpAny_mkStr ?_ (by decide))
  refine wpAny_bind (m := callSpecial? (.int a t) (Str.ofString "__format__") [.str (Str.ofString "b") s.toks])
    (wpAny_callSpecial?_slot (name := Str.ofString "__format__") (typeIs_int _ a t) slot_int_format ?_)
  refine wpAny_call (codeAny_call_builtin slot_int_format.plain entry_int_format
    (slot_int_format.check _ _ _ _ _ _ _ _ (typeIs_int _ a t) (args_int_format _ _) ?_))
  have hne : ((Str.ofString "b").length == 0) = false := by decide
  have hasc : (((Str.ofString "b").cps.toList.drop 1).any (· ≥ 128) || ((Str.ofString "b").cps.getD 0 0 ≥ 128 && !([60, 62, 61, 94] : List Nat).contains ((Str.ofString "b").cps.getD 1 0))) = false := by decide
  unfold Builtin.«int.__format__»
  simp only [selfAndOne, noKeywords, Builtin.Int.intOfSelf, asInt?, asStr?, List.isEmpty_nil, if_true, pure_bind, bind_pure, bind_assoc, hne, hasc, Bool.false_eq_true,
    if_false, show (Value.str (Str.ofString "b") s.toks == Value.none) = false from rfl]
  refine wpAny_bind (wpAny_typeNameOf (T := "str") (typeIs_str _ _ _) (by decide) fun _ => ?_)
  first | refine wpAny_bind (wpAny_typeNameOfCut_int ?_) | refine wpAny_bind (wpAny_typeNameOf_int ?_)
  simp only [parseB, fB]
  rw [if_pos (by decide)]
  simp only [Option.getD_some]
  show wpAny _ _ (retStr _) _ _ _
  unfold retStr
  have key : ∀ (x : Str), x = binText a.natAbs → x.length ≤ sizeLine ∧ Q (.str x (s.toks + 1)) { s with toks := s.toks + 1 + 1 } := fun x e => by
    subst e
    exact ⟨Nat.le_trans (by simpa [binText, Str.length] using hl) (by decide), h⟩
  refine wpAny_bind (wpAny_mkStr (wpAny_pure ?_) (key _ ?hs2).1)
  case hs2 =>
    conv => lhs; whnf
    have hneg : decide (a < 0) = false := by simpa using h0
    simp [hneg, binText]
  dsimp only
  refine wpAny_bind (wpAny_isInstance (typeIs_str _ _ _) isSubtype_str_str (wpAny_pure ?_))
  refine (key _ ?_).2
  conv => lhs; whnf
  have hneg : decide (a < 0) = false := by simpa using h0
  simp [hneg, binText]
end
section
variable {X : Cx}
/-- {n:b} -/
def tFmtB (te : TE) : TE := fun σ H Q => te σ H fun x H1 => ∃ i : Int, x = .int i ∧ 0 ≤ i ∧ (Nat.toDigits 2 i.natAbs).length ≤ 100000 ∧ Q (.str (binText i.natAbs)) H1
theorem pe_fmtB {e : Expr} {te : TE} {k : Nat} {p1 p2 pos : Pos} (he : PE X e te) : PE X (.FormattedValue e (-1) (some (.JoinedStr [.Constant (.str "b") k p1] p2)) pos) (tFmtB te) := by
  refine ⟨fun pins s σ H Q I h => ?_⟩
  refine wpAny_FormattedValue_spec (thn (he.run pins s σ H _ I h) fun v s1 hv => ?_)
  obtain ⟨x, H1, I1, r1, i, rfl, h0, hl, q⟩ := hv
  obtain ⟨t, rfl⟩ := r1
  have hp : PE X (.JoinedStr [.Constant (.str "b") k p1] p2) (tC (.str "b")) := pe_joined1 pe_str
  refine thn (hp.run pins s1 σ H1 (fun v H' => v = .str "b" ∧ H' = H1) I1 ⟨rfl, rfl⟩) fun r s2 hr => ?_
  obtain ⟨y, H2, I2, r2, rfl, rfl⟩ := hr
  obtain ⟨u, rfl⟩ := r2
  exact ⟨_, _, rfl, field_b h0 hl ⟨.str (binText i.natAbs), H2, I2.tok _, ⟨_, rfl⟩, q⟩⟩
end
end SecFmt
section SecBits
open PySem PySem.Spec PyProof.Rows L2
/-! ### binary digits -/
/-- the w lowest binary digits of n, the highest first -/
def fixL : Nat → Nat → List Int
  | 0, _ => []
  | w + 1, n => fixL w (n / 2) ++ [((n % 2 : Nat) : Int)]
theorem fixL_len : ∀ (w n : Nat), (fixL w n).length = w
  | 0, _ => rfl
  | w + 1, n => by rw [fixL, List.length_append, fixL_len w]; rfl
def isBit (b : Int) : Prop := b = 0 ∨ b = 1
theorem fixL_bit : ∀ (w n : Nat), ∀ b ∈ fixL w n, isBit b
  | 0, _, b, h => by simp [fixL] at h
  | w + 1, n, b, h => by
    rw [fixL, List.mem_append] at h
    rcases h with h | h
    · exact fixL_bit w _ b h
    · have : b = ((n % 2 : Nat) : Int) := by simpa using h
      have h2 : n % 2 < 2 := Nat.mod_lt _ (by decide)
      unfold isBit; omega
def code (b : Int) : Nat := (48 + b).toNat
def digs (n : Nat) : List Nat := (Nat.toDigits 2 n).map Char.toNat
theorem digs_small {n : Nat} (h : n < 2) : digs n = [48 + n] := by
  unfold digs; rw [Nat.toDigits_of_lt_base h]
  rcases (by omega : n = 0 ∨ n = 1) with rfl | rfl <;> rfl
theorem digs_step {n : Nat} (h : 2 ≤ n) : digs n = digs (n / 2) ++ [48 + n % 2] := by
  unfold digs; rw [Nat.toDigits_of_base_le (by decide) h, List.map_append]
  congr 1
  rcases (by omega : n % 2 = 0 ∨ n % 2 = 1) with e | e <;> rw [e] <;> rfl
theorem fixL_zero : ∀ w, (fixL w 0).map code = List.replicate w 48
  | 0 => rfl
  | w + 1 => by rw [fixL, List.map_append, fixL_zero w, List.replicate_succ']; rfl
theorem digs_fix : ∀ (w n : Nat), n < 2 ^ (w + 1) → (digs n).length ≤ w + 1 ∧ List.replicate (w + 1 - (digs n).length) 48 ++ digs n = (fixL (w + 1) n).map code
  | 0, n, h => by
    have h2 : n < 2 := by simpa using h
    rw [digs_small h2]
    rcases (by omega : n = 0 ∨ n = 1) with rfl | rfl <;> exact ⟨by decide, by decide⟩
  | w + 1, n, h => by
    by_cases h2 : n < 2
    · rw [digs_small h2]
      refine ⟨by simp, ?_⟩
      rw [fixL, List.map_append, show n / 2 = 0 by omega, fixL_zero]
      show List.replicate (w + 1) 48 ++ [48 + n] = _
      congr 1
      rcases (by omega : n = 0 ∨ n = 1) with rfl | rfl <;> rfl
    · have hp : n / 2 < 2 ^ (w + 1) := by rw [Nat.pow_succ] at h; omega
      obtain ⟨h3, h4⟩ := digs_fix w (n / 2) hp
      rw [digs_step (by omega), fixL, List.map_append, ← h4]
      refine ⟨by simp; omega, ?_⟩
      rw [List.length_append, List.length_singleton, show w + 1 + 1 - ((digs (n / 2)).length + 1) = w + 1 - (digs (n / 2)).length by omega, List.append_assoc]
      congr 2
theorem digs_head {n : Nat} : (digs n)[0]? = some 48 ∨ (digs n)[0]? = some 49 := by
  induction n using Nat.strongRecOn with
  | ind n ih =>
    by_cases h : n < 2
    · rw [digs_small h]; rcases (by omega : n = 0 ∨ n = 1) with rfl | rfl <;> simp
    · rw [digs_step (by omega)]
      have := ih (n / 2) (by omega)
      have hl : 0 < (digs (n / 2)).length := by
        cases e : digs (n / 2) with
        | nil => rw [e] at this; simp at this
        | cons => simp
      rw [List.getElem?_append_left hl]; exact this
theorem zfill_bin {w n : Nat} (h : n < 2 ^ (w + 1)) : (Txt.zfill (binText n) ((w + 1 : Nat) : Int)).cps.toList = (fixL (w + 1) n).map code := by
  obtain ⟨h1, h2⟩ := digs_fix w n h
  have hl : (binText n).length = (digs n).length := by simp [binText, Str.length, digs]
  have hc : (binText n).cps.toList = digs n := by simp [binText, digs]
  unfold Txt.zfill
  by_cases q : (((w + 1 : Nat) : Int) ≤ ((binText n).length : Int))
  · rw [if_pos q, hc, ← h2, show w + 1 - (digs n).length = 0 by omega]; rfl
  · rw [if_neg q]
    have e0 : ∀ x, (binText n).cps[0]? = some x → x ≠ 43 ∧ x ≠ 45 := fun x hx => by
      have : (digs n)[0]? = some x := by rw [← hc]; simpa using hx
      rcases digs_head (n := n) with z | z <;> rw [z] at this <;> cases this <;> decide
    unfold zfilled
    split
    · rename_i hx; exact absurd rfl (e0 _ hx).1
    · rename_i hx; exact absurd rfl (e0 _ hx).2
    · show (Array.replicate _ 48 ++ (binText n).cps ++ Array.replicate 0 48).toList = _
      rw [← h2]
      simp [hc, hl]
theorem bits_le {w n : Nat} (h : n < 2 ^ (w + 1)) : (Nat.toDigits 2 n).length ≤ w + 1 := by
  have := (digs_fix w n h).1
  simpa [digs] using this
theorem intBits_le {n : Int} {w : Nat} (h0 : 0 ≤ n) : (Builtin.Int.intBits n : Nat) ≤ w ↔ n.toNat < 2 ^ w := by
  unfold Builtin.Int.intBits
  by_cases h : n = 0
  · subst h; simp [Nat.two_pow_pos]
  · rw [if_neg (by simpa using h)]
    have e : n.natAbs = n.toNat := by omega
    rw [e, ← Nat.log2_lt (by omega : n.toNat ≠ 0)]
    omega
/-- the number of a list of digits, the highest first -/
def numL (bs : List Int) : Int := bs.foldl (fun a b => 2 * a + b) 0
theorem numL_snoc (bs : List Int) (b : Int) : numL (bs ++ [b]) = 2 * numL bs + b := by simp [numL, List.foldl_append]
theorem num_fixL : ∀ (w n : Nat), n < 2 ^ w → numL (fixL w n) = (n : Int)
  | 0, n, h => by
    have : n = 0 := by simpa using h
    subst this; rfl
  | w + 1, n, h => by
    rw [fixL, numL_snoc, num_fixL w (n / 2) (by rw [Nat.pow_succ] at h; omega)]
    omega
theorem code_bit {b : Int} (h : isBit b) : code b = 48 ∨ code b = 49 := by rcases h with rfl | rfl <;> decide
theorem text_bit {b : Int} (h : isBit b) : PySem.intText? ⟨#[code b]⟩ = some b := by rcases h with rfl | rfl <;> decide +kernel
/-- the digit at a place -/
theorem fixL_at : ∀ (w n i : Nat), i < w → (fixL w n)[i]? = some ((n / 2 ^ (w - 1 - i) % 2 : Nat) : Int)
  | 0, _, _, h => by omega
  | w + 1, n, i, h => by
    rw [fixL]
    by_cases hi : i < w
    · rw [List.getElem?_append_left (by rw [fixL_len]; exact hi), fixL_at w (n / 2) i hi]
      congr 3
      rw [Nat.div_div_eq_div_mul, show w + 1 - 1 - i = (w - 1 - i) + 1 by omega, Nat.pow_succ, Nat.mul_comm]
    · have : i = w := by omega
      subst this
      rw [List.getElem?_append_right (by rw [fixL_len]; exact Nat.le_refl _), fixL_len]
      simp
end SecBits
theorem s_fmtB {σ : L2.St} {H : Hp} {Q : VK} {te : TE} (h : te σ H fun x H1 => ∃ i : Int, x = .int i ∧ 0 ≤ i ∧ (Nat.toDigits 2 i.natAbs).length ≤ 100000 ∧ Q (.str (binText i.natAbs)) H1) : tFmtB te σ H Q := h
section ExcS
open PyProof.Rows
/-! ### own exception classes -/
def exA (mg : Str → Option Value) (x : Str) : Addr := match mg x with
  | some (.ref a) => a
  | _ => 0
theorem exA_of {mg : Str → Option Value} {x : Str} {a : Addr} (h : mg x = some (.ref a)) : exA mg x = a := by unfold exA; rw [h]
structure ExF (K : PySem.W.Frag) (mg : Str → Option Value) (nm : Str) : Prop where
  g : mg nm = some (.ref (exA mg nm))
  x : PySem.W.excIn K (exA mg nm) [.type "ValueError", .type "Exception", .type "BaseException", .type "object"] "ValueError.__new__" = true
  k : PySem.W.keepIn K (.ref (exA mg nm)) = true
  b : PySem.W.subIn K (.ref (exA mg nm)) (.type "BaseException") = some true
  t : PySem.W.typeIn K (.ref (exA mg nm)) = some (.type "type")
  c : ExcC K (exA mg nm)
theorem ExF.mk' {K : PySem.W.Frag} {mg : Str → Option Value} {nm : Str} {C : Addr} (g : mg nm = some (.ref C))
    (x : PySem.W.excIn K C [.type "ValueError", .type "Exception", .type "BaseException", .type "object"] "ValueError.__new__" = true) (k : PySem.W.keepIn K (.ref C) = true)
    (b : PySem.W.subIn K (.ref C) (.type "BaseException") = some true) (t : PySem.W.typeIn K (.ref C) = some (.type "type"))
    (hg : PySem.W.findIn K (.ref C) "__getattribute__" = some (some (.builtin "BaseException.__getattribute__")))
    (hk : PySem.W.findIn K (.ref C) "__getattr__" = some none)
    (hd : PySem.W.hasDictIn K C = true)
    (ha : PySem.W.findIn K (.ref C) "__class__" = some (some (.builtin "object.__class__")))
    (hn : PySem.W.specialIn K (.builtin "object.__class__") "__get__" = some (some (.builtin "getset_descriptor.__get__")))
    (ht : PySem.W.takesIn K (.builtin "object.__class__") = some true)
    (hm : PySem.W.mroIn K C (.type "object") = some true) : ExF K mg nm := by
  have e := exA_of g
  exact ⟨by rw [e]; exact g, by rw [e]; exact x, by rw [e]; exact k, by rw [e]; exact b, by rw [e]; exact t, by rw [e]; exact ⟨hg, hk, b, hd, ha, hn, ht, hm⟩⟩
theorem ExF.exm {K : PySem.W.Frag} {mg : Str → Option Value} {nm : Str} (h : ExF K mg nm) {cls : Value} {b : Bool} (s : PySem.W.subIn K cls (.ref (exA mg nm)) = some b) : PySem.W.exmOne K cls (.ref (exA mg nm)) = some b := PySem.W.exm_ref h.b h.c.hd h.t s
section
variable {X : Cx} {C : Addr} {bmB : List Value} {B newId initId : String}
open PySem.W in
/-- isinstance against an own class, by the order of the classes -/
theorem kit_own {K : Frag} {a C : Addr} {b : Bool} (hd : hasDictIn K C = true) (ht : typeIn K (.ref C) = some (.type "type")) (h : subIn K (.ref a) (.ref C) = some b) (s : subIn K (.ref a) (.ref a) = some true) : kitOne K (.ref a) (.ref C) = some b := by
  obtain ⟨cd, hc, _⟩ := any_some hd
  have e2 : ((clsIn K C).isSome && typeIn K (.ref C) == some (.type "type")) = true := by rw [hc, ht]; rfl
  unfold kitOne
  by_cases q : a = C
  · subst q
    rw [if_pos (by simp), ← h, s]
  · rw [if_neg (by simpa using q)]
    show (if ((clsIn K C).isSome && typeIn K (.ref C) == some (.type "type")) = true then subIn K (.ref a) (.ref C) else none) = some b
    rw [if_pos e2, h]
open PySem.W in
theorem kit_val {K : Frag} {a : Addr} (h : subIn K (.ref a) (.type "ValueError") = some true) : kitOne K (.ref a) (.type "ValueError") = some true := by
  unfold kitOne
  rw [if_neg (by simp)]
  show (if kitMeta "ValueError" = true then subIn K (.ref a) (.type "ValueError") else none) = some true
  rw [if_pos (by decide +kernel), h]
/-- X() -/
theorem pmk_own0 {x : Str} {p pos : Pos} (F : ExcBaseFacts B newId initId bmB) (q : PySem.W.excIn X.K C bmB newId = true) (gC : X.mg x = some (.ref C)) (kC : PySem.W.keepIn X.K (.ref C) = true) (r : Raises X (.ref C)) (hg : Gl X x)
    (hdb : (x == ("__debug__" : Str)) = false := by decide) : PMk X (.Call (.Name x p) [] [] pos) (fun _ H Q => Q (.ref C) none H) := by
  intro pins s σ H Q I h
  refine wpAny_Call_Name_kw (ld_glob I hg gC ?_ hdb)
  refine PySem.W.callWith_K0 I.kIn kC ?_
  obtain ⟨bm, N, nm, qn, bs, hdct, sn, sub, ab, col, dd, k0, k1, k2, k3, k5, mN, hC, hN, hni, T⟩ := exc_obj I.kIn q
  exact wpAny_call_exc_subT F T hC hN hni (fun h' e hm => mk_of I hm r h (I.hok.gone hm.new)) (Nat.zero_le _)
end
/-- isinstance(e, c) in an except suite: e's class is known in the reading -/
def rIsX (K : PySem.W.Frag) (a : Addr) (cls : Value) (d : Option Addr) : List V → Hp → VK → Prop := fun xs H Q => ∃ D, cls = .ref D ∧ d = none ∧ ExcC K D ∧ rIsE K D a xs H Q
theorem call_isX {X : Cx} (K : PySem.W.Frag) (eK : X.K = K) {a : Addr} {cls : Value} {d : Option Addr} {oe : Obj} {pn : List (Addr × Obj)} (hz : Zc cls d oe) (hf : ∃ vs, oe.data = .fields vs) : CallR (X.suite a ((a, oe) :: pn)) (.builtin "isinstance") (rIsX K a cls d) := by
  subst eK
  intro pins s σ H vs us Q I r h
  obtain ⟨D, rfl, rfl, C, q⟩ := h
  exact call_isE C hz hf pins s σ H vs us Q I r q
theorem s_isX {K : PySem.W.Frag} {a D C : Addr} {b : Bool} {H : Hp} {Q : VK} (c : ExcC K D) (k : PySem.W.kitOne K (.ref D) (.ref C) = some b) (q : Q (.bl b) H) : rIsX K a (.ref D) none [.ref a, .ref C] H Q :=
  ⟨D, rfl, rfl, c, .ref C, .ref C, b, rfl, fun _ r => r, k, q⟩
theorem s_isXt {K : PySem.W.Frag} {a D : Addr} {n : String} {b : Bool} {H : Hp} {Q : VK} (c : ExcC K D) (k : PySem.W.kitOne K (.ref D) (.type n) = some b) (q : Q (.bl b) H) : rIsX K a (.ref D) none [.ref a, .ty n] H Q :=
  ⟨D, rfl, rfl, c, .ty n, .type n, b, rfl, fun _ r => r, k, q⟩
theorem s_callS {sp : Sp} {E : L2.St → XK} {t : TA} {σ : L2.St} {H : Hp} {Q : VK} (h : t σ H fun vs H1 => sp vs H1 Q (E σ)) : tCallS sp E t σ H Q := h
theorem cx_none {P : Program} {w : World} {H : Hp} {s : Shared} {e : Value} {s' : Shared} (h : L2.CX P w [] H s (fun _ _ _ => False) e s') : False := by
  obtain ⟨_, _, _, _, _, _, _, _, _, _, _, _, z⟩ := h
  exact z
end ExcS
/-! ### several clauses behind a try, each with a name or without -/
section HandsS
open PySem.Spec PyProof.Rows
def goneD (i : Nat) (D : Ends) : Ends := ⟨fun σ H => D.nx (σ.set i none) H, D.rt, fun σ H => D.bk (σ.set i none) H, fun σ H => D.ct (σ.set i none) H⟩
/-- what the clauses want of an error: the first whose class fits takes it -/
def wH (K : PySem.W.Frag) (out : WX) (D : Ends) : List (Value × Option Nat × (Addr → Value → Option Addr → TS)) → WX
  | [] => out
  | (c, none, ts) :: r => fun cls d σ H => ∃ b, PySem.W.exmOne K cls c = some b ∧ (b = true → ∀ a, H a = none → ts a cls d D σ H) ∧ (b = false → wH K out D r cls d σ H)
  | (c, some i, ts) :: r => fun cls d σ H => ∃ b, PySem.W.exmOne K cls c = some b ∧ (b = true → ∀ a, H a = none → ts a cls d (goneD i D) (σ.set i (some (.ref a))) H) ∧ (b = false → wH K out D r cls d σ H)
inductive HOks (X : Cx) : List ExceptHandler → List (Value × Option Nat × (Addr → Value → Option Addr → TS)) → Prop
  | nil : HOks X [] []
  | anon {x : Str} {c : Value} {ts : Addr → Value → Option Addr → TS} {b₀ : Stmt} {suite : List Stmt} {np pos : Pos} {hds : List ExceptHandler} {l : List (Value × Option Nat × (Addr → Value → Option Addr → TS))} (hc : Names X x c)
      (hsu : ∀ (a : Addr) (oe : Obj) (cls : Value) (d : Option Addr) (pn : List (Addr × Obj)), Zc cls d oe → (∃ vs, oe.data = .fields vs) → PSs (X.suite a ((a, oe) :: pn)) (b₀ :: suite) (ts a cls d)) (r : HOks X hds l) :
      HOks X (.ExceptHandler (some (.Name x np)) none (b₀ :: suite) pos :: hds) ((c, none, ts) :: l)
  | named {x n : Str} {i : Nat} {c : Value} {ts : Addr → Value → Option Addr → TS} {b₀ : Stmt} {suite : List Stmt} {np pos : Pos} {hds : List ExceptHandler} {l : List (Value × Option Nat × (Addr → Value → Option Addr → TS))}
      (hi : X.N[i]? = some n) (hln : X.env.kindOf n = some .local) (hc : Names X x c)
      (hsu : ∀ (a : Addr) (oe : Obj) (cls : Value) (d : Option Addr) (pn : List (Addr × Obj)), Zc cls d oe → (∃ vs, oe.data = .fields vs) → PSs (X.suite a ((a, oe) :: pn)) (b₀ :: suite) (ts a cls d)) (r : HOks X hds l) :
      HOks X (.ExceptHandler (some (.Name x np)) (some n) (b₀ :: suite) pos :: hds) ((c, some i, ts) :: l)
/-- an error that has come down to the frame of a try -/
structure Down (X : Cx) (pins : List (Addr × Obj)) (σ : L2.St) (H : Hp) (cls : Value) (d : Option Addr) (a : Addr) (B : Heap) (sI s : Shared) : Prop where
  at0 : L2.Inv X pins σ H sI
  nb : ∀ (b : Addr) (o : Obj), sI.heap.get? b = some o → ¬ b ∈ frs X.stack → B.get? b = some o
  up : sI.heap.UpToSlots s.heap
  os : s.os = sI.os
  ag : AllBare s.gens
  na : H a = none
  fl : HandSPX.FlyingZ B (X.env :: X.outer) a (Zc cls d) s.heap
variable {X : Cx} {pins : List (Addr × Obj)} {σ : L2.St} {H : Hp} {cls : Value} {d : Option Addr} {a : Addr} {B : Heap} {sI s : Shared}
theorem Down.inv (D : Down X pins σ H cls d a B sI s) : L2.Inv X pins σ H s := D.at0.landed D.nb D.fl.1 D.up D.os D.ag
theorem Down.obj (D : Down X pins σ H cls d a B sI s) (hf : X.env.frame = some X.env.locals) :
    ∃ oe vs, s.heap.get? a = some oe ∧ Zc cls d oe ∧ oe.data = Data.fields vs ∧ L2.Inv (X.suite a ((a, oe) :: (X.pn ++ pins))) [] σ H s := by
  obtain ⟨oe, vs, e, z, dd⟩ := D.fl.there
  have off : a ∉ frs (X.env :: X.outer) := fun hm => by
    obtain ⟨_, o, e', no⟩ := D.fl.2.2.1.mem hm
    rw [e] at e'
    exact no vs ((Option.some.inj e') ▸ dd)
  have n1 : a ≠ X.env.locals := fun z => off (List.mem_filterMap.mpr ⟨X.env, by simp, by rw [hf, z]⟩)
  have n2 : a ∉ X.fs := fun hm => off (by
    obtain ⟨v, hv, q⟩ := List.mem_filterMap.mp hm
    exact List.mem_filterMap.mpr ⟨v, by simp [hv], q⟩)
  exact ⟨oe, vs, e, z, dd, D.inv.suite e dd D.na n1 n2⟩
theorem Down.next (D : Down X pins σ H cls d a B sI s) {h' : Heap} (f : HandSPX.FlyingZ B (X.env :: X.outer) a (Zc cls d) h') (u : s.heap.UpToSlots h') : Down X pins σ H cls d a B sI { s with heap := h' } :=
  ⟨D.at0, D.nb, D.up.trans u, D.os, D.ag, D.na, f⟩
theorem Down.hands (D : Down X pins σ H cls d a B sI s) {W : WX} {E : Ends} (hs : X.stack = X.env :: X.outer) (hf : X.env.frame = some X.env.locals) (hN : X.N.Nodup) (tk : Takes X W) (ok : X.Ok) {hds : List ExceptHandler} {l : List (Value × Option Nat × (Addr → Value → Option Addr → TS))}
    (hh : HOks X hds l) (w : wH X.K W E l cls d σ H) : wpAny (model X.prog X.w) X.A (handleBy (.ref a) X.env hds) (SP X pins E) X.xe s := by
  induction hh with
  | nil =>
    refine wpAny_handleBy_nil ?_
    obtain ⟨_, _, _, oe, vs, T, oT, ts, he, _, hd, h1, _⟩ := id D.fl
    unfold PySem.passOn
    refine wpAny_bind (wpAny_field he hd h1 ?_)
    rw [if_neg (show ¬ ((Value.ref T == Value.none) = true) from by simp)]
    have out : wpAny (model X.prog X.w) X.A (setFlight (.ref a) X.env.frame) (fun _ s4 => wpAny (model X.prog X.w) X.A (throw (.ref a) : Sem Flow) (SP X pins E) X.xe s4) X.xe s := by
      rw [hf]
      exact HandSPX.setFlight_upZ D.fl fun h4 hh4 u4 => wpAny_throw (tk _ _ ⟨a, B, sI, pins, σ, H, cls, d, rfl, D.at0, D.nb, D.up.trans u4, .inr (.inr (by rw [hs]; exact hh4)), D.na, D.os, D.ag, w⟩)
    first
      | exact wpAny_bind (wpAny_pure (wpAny_bind out))
      | exact wpAny_bind out
  | @anon x c ts b₀ suite np pos hds l hc hsu r ih =>
    obtain ⟨b, e1, yes, no⟩ := w
    obtain ⟨oe, vs, he, hz, _, S⟩ := D.obj hf
    refine wpAny_handleBy_cons (codeAny_handlers_test ?_) (by intro q; cases q)
    have ty : PySem.W.Looks (model X.prog X.w) s.heap (typeOf (.ref a)) cls := fun _ _ _ _ k q => wpAny_typeOf_ref (k _ _ he) (by rw [hz.1]; exact q)
    have fits := PySem.W.exm_one (M := model X.prog X.w) D.inv.kIn ty e1
    have name : ∀ {Q E : Value → Shared → Prop}, Q c s → wpAny (model X.prog X.w) (X.A.mark (some (.ref a))) (eval (.Name x np) X.env) Q E s := fun {Q E} q => by
      obtain ⟨g1, g2, g3 | ⟨g3, g4, g5⟩⟩ := hc
      · exact ld_glob (X := X.suite a ((a, oe) :: (X.pn ++ pins))) S g1 g3 q g2
      · exact ld_blt (X := X.suite a ((a, oe) :: (X.pn ++ pins))) S g1 g3 g4 q g5 g2
    refine name (fits.here ?_)
    cases b with
    | false => exact ih (no rfl)
    | true =>
      refine codeAny_handlers_suite (HandSPX.lands_againZ D.fl fun h4 f4 u4 => ?_)
      obtain ⟨oe4, vs4, _, z4, d4, S4⟩ := (D.next f4 u4).obj hf
      refine wpAny_mono ((hsu a oe4 cls d (X.pn ++ pins) z4 ⟨_, d4⟩).run [] _ σ H E S4 (yes rfl a D.na)) (fun f s6 q => ?_) fun _ _ z => z.elim
      cases f with
      | ret u =>
        obtain ⟨v6, σ6, H6, S6, r6, q6⟩ := q
        exact ⟨v6, σ6, H6, S6.unsuite ok, r6, q6⟩
      | _ =>
        obtain ⟨σ6, H6, S6, q6⟩ := q
        exact ⟨σ6, H6, S6.unsuite ok, q6⟩
  | @named x n i c ts b₀ suite np pos hds l hi hln hc hsu r ih =>
    obtain ⟨b, e1, yes, no⟩ := w
    obtain ⟨oe, vs, he, hz, _, S⟩ := D.obj hf
    refine wpAny_handleBy_cons (codeAny_handlers_test ?_) (by intro q; cases q)
    have ty : PySem.W.Looks (model X.prog X.w) s.heap (typeOf (.ref a)) cls := fun _ _ _ _ k q => wpAny_typeOf_ref (k _ _ he) (by rw [hz.1]; exact q)
    have fits := PySem.W.exm_one (M := model X.prog X.w) D.inv.kIn ty e1
    have name : ∀ {Q E : Value → Shared → Prop}, Q c s → wpAny (model X.prog X.w) (X.A.mark (some (.ref a))) (eval (.Name x np) X.env) Q E s := fun {Q E} q => by
      obtain ⟨g1, g2, g3 | ⟨g3, g4, g5⟩⟩ := hc
      · exact ld_glob (X := X.suite a ((a, oe) :: (X.pn ++ pins))) S g1 g3 q g2
      · exact ld_blt (X := X.suite a ((a, oe) :: (X.pn ++ pins))) S g1 g3 g4 q g5 g2
    refine name (fits.here ?_)
    cases b with
    | false => exact ih (no rfl)
    | true =>
      refine codeAny_handlers_suite_as (HandSPX.lands_againZ D.fl fun h4 f4 u4 => ?_)
      obtain ⟨oe4, vs4, _, z4, d4, S4⟩ := (D.next f4 u4).obj hf
      refine store_ok (X := X.suite a ((a, oe4) :: (X.pn ++ pins))) (v := .ref a) S4 hN hi (.inl hln) rfl (fun s5 S5 => ?_) (.inr hln)
      refine wpAny_mono ((hsu a oe4 cls d (X.pn ++ pins) z4 ⟨_, d4⟩).run [] s5 _ H (goneD i E) S5 (yes rfl a D.na)) (fun f s6 q => ?_) fun _ _ z => z.elim
      cases f with
      | ret u =>
        obtain ⟨v6, σ6, H6, S6, r6, q6⟩ := q
        exact gone_ok (S6.unsuite ok) hN hi hln fun s7 J7 => ⟨_, _, _, J7, r6, q6⟩
      | _ =>
        obtain ⟨σ6, H6, S6, q6⟩ := q
        exact gone_ok (S6.unsuite ok) hN hi hln fun s7 J7 => ⟨_, _, J7, q6⟩
/-- try: body, then clauses with names or without -/
theorem ps_tryH {body : List Stmt} {h₀ : ExceptHandler} {hds : List ExceptHandler} {l : List (Value × Option Nat × (Addr → Value → Option Addr → TS))} {W : WX} {tb : WX → TS} {pos : Pos} (hs : X.stack = X.env :: X.outer) (hf : X.env.frame = some X.env.locals) (hN : X.N.Nodup) (tk : Takes X W)
    (hb : ∀ (V : WX) (pn : List (Addr × Obj)) (xe : Value → Shared → Prop), Takes (X.tr pn xe) V → PassesOwn (model X.prog X.w) X.A X.env xe → PSs (X.tr pn xe) body (tb V))
    (hh : HOks X (h₀ :: hds) l) : PS X (.Try body (h₀ :: hds) [] [] pos) (fun D σ H => tb (wH X.K W D l) D σ H) := by
  refine ⟨fun pins s σ H D I h => ?_⟩
  have ok := I.ok
  refine wpAny_Try_except (wpAny_mono ((hb (wH X.K W D l) (X.pn ++ pins) _ (fun u s' xx => ?_) PassesOwn.looking).run [] s σ H D (I.toTry _) h) (fun f s1 q => ?_) fun e s1 he => he)
  · obtain ⟨a, B, sI, pins', σ', H', cls, d, rfl, J', nb, up, sky, na, os, ag, w⟩ := xx
    have sky' : Sky B (X.env :: X.outer) a (Zc cls d) X.env.locals s'.heap := by rw [← hs]; exact sky
    exact Sky.land Zc.steady (by rw [ok.frames, hs]) hf sky' fun h3 f3 u3 => Down.hands (s := { s' with heap := h3 }) ⟨J'.ofTry ok, nb, up.trans u3, os, ag, na, f3⟩ hs hf hN tk ok hh w
  · cases f with
    | next =>
      obtain ⟨σ', H', J', q⟩ := q
      exact wpAny_execs_nil ⟨σ', H', J'.ofTry ok, q⟩
    | ret u =>
      obtain ⟨v, σ', H', J', r, q⟩ := q
      exact ⟨v, σ', H', J'.ofTry ok, r, q⟩
    | _ =>
      obtain ⟨σ', H', J', q⟩ := q
      exact ⟨σ', H', J'.ofTry ok, q⟩
end HandsS
/-! ### codes of counts -/
theorem pad_ok {i : Int} (h : 0 ≤ i ∧ i ≤ 10000) : PadOk i = true := by
  unfold PadOk fitsSsize Builtin.Str.tooLong
  have e : sizeLine = 16777216 := by decide
  simp [e]
  omega
/-- how many binary digits a number has -/
def blen (n : Nat) : Nat := if n = 0 then 0 else n.log2 + 1
theorem blen_lt (n : Nat) : n < 2 ^ blen n := by
  unfold blen
  split
  · subst_vars; decide
  · exact (Nat.log2_lt (by assumption)).mp (Nat.lt_succ_self _)
theorem intBits_blen {n : Int} (h : 0 ≤ n) : (Builtin.Int.intBits n : Nat) = blen n.toNat := by
  unfold Builtin.Int.intBits blen
  by_cases e : n = 0
  · subst e; rfl
  · rw [if_neg (by simpa using e), if_neg (by omega), show n.natAbs = n.toNat by omega]
theorem blen_le {n k : Nat} (h : n < 2 ^ k) : blen n ≤ k := by
  unfold blen
  split
  · omega
  · exact (Nat.log2_lt (by assumption)).mpr h
theorem blen_pos {n : Nat} (h : 0 < n) : 0 < blen n := by unfold blen; rw [if_neg (by omega)]; omega
/-- the code of a count -/
def countL (n : Nat) : List Int := List.replicate (blen (n + 1) - 1) 0 ++ fixL (blen (n + 1)) (n + 1)
def sgn (n : Int) : Nat := if 0 ≤ n then (2 * n).toNat else (-2 * n - 1).toNat
theorem fixL_head {w n : Nat} (h1 : 2 ^ w ≤ n) (h2 : n < 2 ^ (w + 1)) : ∃ t, fixL (w + 1) n = 1 :: t ∧ t.length = w := by
  have e := fixL_at (w + 1) n 0 (by omega)
  have d : n / 2 ^ w = 1 := by
    have a : 1 ≤ n / 2 ^ w := (Nat.le_div_iff_mul_le (Nat.two_pow_pos w)).mpr (by omega)
    have b : n / 2 ^ w < 2 := (Nat.div_lt_iff_lt_mul (Nat.two_pow_pos w)).mpr (by rw [Nat.pow_succ] at h2; omega)
    omega
  rw [show w + 1 - 1 - 0 = w by omega, d] at e
  have hl := fixL_len (w + 1) n
  match h : fixL (w + 1) n with
  | [] => rw [h] at hl; simp at hl
  | x :: t =>
    rw [h] at e hl
    have : x = 1 := by simpa using e
    subst this
    exact ⟨t, rfl, by simpa using hl⟩
/-- the code of a count: so many noughts, a one, as many digits -/
theorem countL_form (c : Nat) (hc : c ≤ 2199023255550) : ∃ (z : Nat) (t : List Int), countL c = List.replicate z 0 ++ 1 :: t ∧ t.length = z ∧ z ≤ 40 ∧ numL (1 :: t) = (c : Int) + 1 ∧ ∀ x ∈ t, isBit x := by
  have hp := blen_pos (n := c + 1) (by omega)
  have h2 := blen_lt (c + 1)
  have h1 : 2 ^ (blen (c + 1) - 1) ≤ c + 1 := by
    unfold blen
    rw [if_neg (by omega)]
    exact (Nat.le_log2 (by omega)).mp (Nat.le_refl _)
  have h3 : blen (c + 1) ≤ 41 := blen_le (by omega)
  have e : blen (c + 1) = (blen (c + 1) - 1) + 1 := by omega
  rw [e] at h2
  obtain ⟨t, ht, hl⟩ := fixL_head h1 h2
  refine ⟨blen (c + 1) - 1, t, ?_, hl, by omega, ?_, fun x hx => ?_⟩
  · unfold countL
    rw [← ht, ← e]
  · rw [← ht, num_fixL _ _ h2]; simp
  · exact fixL_bit _ _ x (ht ▸ List.mem_cons_of_mem _ hx)
theorem countL_len (c : Nat) (hc : c ≤ 2199023255550) : (countL c).length ≤ 81 := by
  obtain ⟨z, t, h, hl, hz, _⟩ := countL_form c hc
  rw [h]; simp [hl]; omega
theorem countL_bit (c : Nat) (hc : c ≤ 2199023255550) : ∀ x ∈ countL c, isBit x := by
  obtain ⟨z, t, h, hl, hz, _, hb⟩ := countL_form c hc
  intro x hx
  rw [h] at hx
  rcases List.mem_append.mp hx with hx | hx
  · exact .inl (List.eq_of_mem_replicate hx)
  · rcases List.mem_cons.mp hx with rfl | hx
    · exact .inr rfl
    · exact hb x hx
/-- noughts from a place on -/
def zrun (bs : List Int) (a : Nat) : Nat := ((bs.drop a).takeWhile fun b => decide (b = 0)).length
/-- what is read at a place -/
def cntR (bs : List Int) (a : Nat) : List V :=
  if 40 < min 41 (zrun bs a) then [.str "long"] else if bs.length < a + min 41 (zrun bs a) + min 41 (zrun bs a) + 1 then [.str "short"]
  else [.str "read", .int (numL ((bs.drop (a + min 41 (zrun bs a))).take (min 41 (zrun bs a) + 1)) - 1), .int ((a + min 41 (zrun bs a) + min 41 (zrun bs a) + 1 : Nat) : Int)]
theorem tw_at {p : Int → Bool} : ∀ (l : List Int) (j : Nat), j < (l.takeWhile p).length → ∃ x, l[j]? = some x ∧ p x = true
  | [], j, h => by simp at h
  | y :: l, j, h => by
    rw [List.takeWhile_cons] at h
    by_cases e : p y = true
    · rw [if_pos e] at h
      cases j with
      | zero => exact ⟨y, rfl, e⟩
      | succ j => exact tw_at l j (by simpa using h)
    · rw [if_neg e] at h; simp at h
theorem tw_end {p : Int → Bool} : ∀ (l : List Int) (x : Int), l[(l.takeWhile p).length]? = some x → p x = false
  | [], x, h => by simp at h
  | y :: l, x, h => by
    rw [List.takeWhile_cons] at h
    by_cases e : p y = true
    · rw [if_pos e] at h
      exact tw_end l x (by simpa using h)
    · rw [if_neg e] at h
      have : y = x := by simpa using h
      subst this
      simpa using e
theorem zrun_at {bs : List Int} {a j : Nat} (h : j < zrun bs a) : bs[a + j]? = some 0 := by
  obtain ⟨x, e, hx⟩ := tw_at (bs.drop a) j h
  rw [List.getElem?_drop] at e
  rw [e]; simpa using hx
theorem zrun_end {bs : List Int} {a : Nat} : bs[a + zrun bs a]? ≠ some 0 := fun e => by
  have := tw_end (p := fun b => decide (b = 0)) (bs.drop a) 0 (by rw [List.getElem?_drop]; exact e)
  simp at this
theorem zrun_le {bs : List Int} {a : Nat} (h : a ≤ bs.length) : a + zrun bs a ≤ bs.length := by
  have : zrun bs a ≤ (bs.drop a).length := (List.takeWhile_sublist _).length_le
  simp at this; omega
theorem tw_rep (z : Nat) (r : List Int) (h : ∀ x, r[0]? = some x → x ≠ 0) : ((List.replicate z (0 : Int) ++ r).takeWhile fun b => decide (b = 0)).length = z := by
  induction z with
  | zero =>
    cases r with
    | nil => simp
    | cons x r => have := h x rfl; simp [this]
  | succ z ih => rw [List.replicate_succ, List.cons_append, List.takeWhile_cons, if_pos (by simp), List.length_cons, ih]
theorem cntR_code {c : Nat} (hc : c ≤ 2199023255550) (A B : List Int) : cntR (A ++ countL c ++ B) A.length = [.str "read", .int c, .int ((A.length + (countL c).length : Nat) : Int)] := by
  obtain ⟨z, t, h, hl, hz, hn, _⟩ := countL_form c hc
  have e : A ++ countL c ++ B = A ++ (List.replicate z 0 ++ (1 :: (t ++ B))) := by rw [h]; simp
  have hzr : zrun (A ++ countL c ++ B) A.length = z := by
    unfold zrun
    rw [e, List.drop_left]
    exact tw_rep z _ (by simp)
  have hlen : (countL c).length = z + (z + 1) := by rw [h]; simp [hl]
  unfold cntR
  rw [hzr, Nat.min_eq_right (by omega), if_neg (by omega), if_neg (by simp [hlen]; omega)]
  congr 2
  · congr 1
    rw [e, show A.length + z = (A ++ List.replicate z (0 : Int)).length by simp, ← List.append_assoc, List.drop_left, show (1 : Int) :: (t ++ B) = (1 :: t) ++ B from rfl, List.take_left' (by simp [hl]), hn]
    omega
  · rw [hlen, show A.length + z + z + 1 = A.length + (z + (z + 1)) by omega]
theorem cntR_short {c : Nat} (hc : c ≤ 2199023255550) (A : List Int) {k : Nat} (hk : k < (countL c).length) : cntR (A ++ (countL c).take k) A.length = [.str "short"] := by
  obtain ⟨z, t, h, hl, hz, hn, _⟩ := countL_form c hc
  have hlen : (countL c).length = z + (z + 1) := by rw [h]; simp [hl]
  have hzr : zrun (A ++ (countL c).take k) A.length = min k z := by
    unfold zrun
    rw [List.drop_left, h]
    by_cases hkz : k ≤ z
    · rw [List.take_append_of_le_length (by simp; omega), List.take_replicate, Nat.min_eq_left hkz]
      have := tw_rep k [] (by simp)
      simpa using this
    · rw [List.take_append, List.take_of_length_le (by simp; omega), Nat.min_eq_right (by omega)]
      refine tw_rep z _ fun x hx => ?_
      rw [List.length_replicate, show k - z = (k - z - 1) + 1 by omega, List.take_succ_cons] at hx
      have : (1 : Int) = x := by simpa using hx
      omega
  unfold cntR
  rw [hzr, if_neg (by omega), if_pos]
  simp; omega
open PySem L2
/-! one step that needs no thought -/
local macro_rules | `(tactic| walk_at "cond") => `(tactic| first
  | decide
  | exact .inl ⟨by decide, by decide⟩
  | exact .inr ⟨by decide, by decide⟩
  | exact ⟨by decide, by decide⟩
  | exact ⟨by decide, by decide, by decide⟩
  | assumption
  | (show (0 : Int) < _; omega)
  | (show (0 : Int) ≤ _; omega)
  | exact .inl ⟨by omega, by omega⟩
  | exact .inr ⟨by omega, by omega⟩
  | exact ⟨by omega, by omega⟩
  | exact ⟨by omega, by omega, by omega⟩)
local macro_rules | `(tactic| walk_at "sq") => `(tactic| first
  | assumption
  | exact SqL.of (by assumption)
  | exact SqT.of (by assumption)
  | exact SqL.of upd_same
  | exact SqT.of upd_same)
local macro_rules | `(tactic| walk_at "r1") => `(tactic| first
  | (with_reducible refine s_seq ?_)
  | (with_reducible refine s_next ?_)
  | (with_reducible refine s_asg ?_)
  | (with_reducible refine s_gname ?_)
  | (with_reducible refine s_ret ?_)
  | (with_reducible refine s_if ?_)
  | (with_reducible refine s_drop ?_)
  | (with_reducible refine s_op ?_)
  | (with_reducible refine s_c ?_)
  | (with_reducible refine s_tup ?_)
  | (with_reducible refine s_lst ?_)
  | (with_reducible refine s_nil ?_)
  | (with_reducible refine s_cons ?_)
  | (with_reducible refine s_call ?_)
  | (with_reducible refine s_cb ?_)
  | (with_reducible refine s_test ?_)
  | (with_reducible refine s_tB ?_)
  | (with_reducible refine s_b ?_)
  | (with_reducible refine s_not ?_)
  | (with_reducible refine s_and ?_)
  | (with_reducible refine s_or ?_)
  | (with_reducible refine s_un ?_)
  | (with_reducible refine s_U ?_)
  | (with_reducible refine s_ifE ?_)
  | (with_reducible refine s_andV0 ?_)
  | (with_reducible refine s_orV0 ?_)
  | (with_reducible refine s_notV ?_)
  | (with_reducible refine s_I0 ?_)
  | (with_reducible refine s_chain ?_)
  | (with_reducible refine s_par3 ?_)
  | (with_reducible refine s_par ?_)
  | (with_reducible refine s_v2 ?_)
  | (with_reducible refine s_v3 ?_)
  | (with_reducible refine s_eqI ?_)
  | (with_reducible refine s_neI ?_)
  | (with_reducible refine s_eqS ?_)
  | (with_reducible refine s_neS ?_)
  | (with_reducible refine s_max2 ?_)
  | (with_reducible refine s_min2 ?_)
  | (with_reducible refine s_int1 ?_)
  | (with_reducible refine s_int1b ?_)
  | ((with_reducible refine' s_var ?h ?q); (case h => rfl))
  | (with_reducible refine s_for ?_)
  | (with_reducible refine s_iR1 ?_)
  | (with_reducible refine s_iR2 ?_)
  | (with_reducible refine s_iR3 ?_)
  | (with_reducible refine s_sl ?_)
  | (with_reducible refine s_part ?_)
  | (with_reducible refine s_nopart ?_)
  | (with_reducible refine s_iL ?_)
  | (with_reducible refine s_iT ?_)
  | (with_reducible refine s_iS ?_)
  | (with_reducible refine s_lc ?_)
  | (with_reducible refine s_yes ?_)
  | ((with_reducible refine' s_wipe ?h ?q); (case h => rfl))
  | (with_reducible refine s_callK0 ?_)
  | (with_reducible refine s_bits ?_)
  | (with_reducible refine s_i ?_)
  | (with_reducible refine s_bm ?_)
  | (with_reducible refine s_bm0 ?_)
  | (with_reducible refine s_m1 ?_)
  | (with_reducible refine s_callK ?_)
  | (with_reducible refine s_gsub ?_)
  | ((with_reducible refine' s_gtup ?h ?e ?q); (case h => walk_at "sq"); (case e => rfl))
  | (with_reducible refine s_gcons ?_)
  | (with_reducible refine s_gnil ?_)
  | ((with_reducible refine s_I ?c ?q); (case c => walk_at "cond"))
  | ((with_reducible refine' s_ixL ?h ?a ?q); (case h => walk_at "sq"); (case a => rfl))
  | ((with_reducible refine' s_ixT ?h ?a ?q); (case h => walk_at "sq"); (case a => rfl))
  | ((with_reducible refine' s_setL ?h ?a ?q); (case h => first | assumption | exact upd_same); (case a => rfl))
  | ((with_reducible refine' s_len ?h ?q); (case h => walk_at "sq"))
  | ((with_reducible refine' s_lenT ?h ?q); (case h => walk_at "sq"))
  | (with_reducible refine iteT ?_)
  | (with_reducible refine iteF ?_)
  | (with_reducible refine itNF ?_)
  | (with_reducible refine itNT ?_))
local macro_rules | `(tactic| walk_at "r") => `(tactic| (repeat walk_at "r1"))
local macro_rules | `(tactic| walk_at "r1") => `(tactic| (with_reducible refine s_fmtB ?_))
local macro_rules | `(tactic| walk_at "r1") => `(tactic| (with_reducible refine s_callS ?_))
def topS (i : Nat) : Stmt := PySem.Challenge.pw_narrowingbits_k03_long_ones_and_places.main.body.getD i (.Pass ⟨0, 0, 0, 0⟩)
structure Zs (K : PySem.W.Frag) (mg : Str → Option Value) : Prop where
  z_bool : mg "bool" = none
  z_int : mg "int" = none
  z_isinstance : mg "isinstance" = none
  z_len : mg "len" = none
  z_list : mg "list" = none
  z_max : mg "max" = none
  z_min : mg "min" = none
  z_range : mg "range" = none
  e_MOST_ZEROS : ∃ t, mg "MOST_ZEROS" = some (.int (40) t)
  x_BadBits : ExF K mg "BadBits"
  x_NarrowError : ExF K mg "NarrowError"
  x_Outside : ExF K mg "Outside"
  s_BadBits_BadBits : PySem.W.subIn K (.ref (exA mg "BadBits")) (.ref (exA mg "BadBits")) = some true
  k_BadBits_BadBits : PySem.W.kitOne K (.ref (exA mg "BadBits")) (.ref (exA mg "BadBits")) = some true
  s_BadBits_NarrowError : PySem.W.subIn K (.ref (exA mg "BadBits")) (.ref (exA mg "NarrowError")) = some true
  k_BadBits_NarrowError : PySem.W.kitOne K (.ref (exA mg "BadBits")) (.ref (exA mg "NarrowError")) = some true
  s_BadBits_Outside : PySem.W.subIn K (.ref (exA mg "BadBits")) (.ref (exA mg "Outside")) = some false
  k_BadBits_Outside : PySem.W.kitOne K (.ref (exA mg "BadBits")) (.ref (exA mg "Outside")) = some false
  s_NarrowError_BadBits : PySem.W.subIn K (.ref (exA mg "NarrowError")) (.ref (exA mg "BadBits")) = some false
  k_NarrowError_BadBits : PySem.W.kitOne K (.ref (exA mg "NarrowError")) (.ref (exA mg "BadBits")) = some false
  s_NarrowError_NarrowError : PySem.W.subIn K (.ref (exA mg "NarrowError")) (.ref (exA mg "NarrowError")) = some true
  k_NarrowError_NarrowError : PySem.W.kitOne K (.ref (exA mg "NarrowError")) (.ref (exA mg "NarrowError")) = some true
  s_NarrowError_Outside : PySem.W.subIn K (.ref (exA mg "NarrowError")) (.ref (exA mg "Outside")) = some false
  k_NarrowError_Outside : PySem.W.kitOne K (.ref (exA mg "NarrowError")) (.ref (exA mg "Outside")) = some false
  s_Outside_BadBits : PySem.W.subIn K (.ref (exA mg "Outside")) (.ref (exA mg "BadBits")) = some false
  k_Outside_BadBits : PySem.W.kitOne K (.ref (exA mg "Outside")) (.ref (exA mg "BadBits")) = some false
  s_Outside_NarrowError : PySem.W.subIn K (.ref (exA mg "Outside")) (.ref (exA mg "NarrowError")) = some true
  k_Outside_NarrowError : PySem.W.kitOne K (.ref (exA mg "Outside")) (.ref (exA mg "NarrowError")) = some true
  s_Outside_Outside : PySem.W.subIn K (.ref (exA mg "Outside")) (.ref (exA mg "Outside")) = some true
  k_Outside_Outside : PySem.W.kitOne K (.ref (exA mg "Outside")) (.ref (exA mg "Outside")) = some true
theorem Zs.c_MOST_ZEROS {K : PySem.W.Frag} {mg : Str → Option Value} (Z : Zs K mg) : mg "MOST_ZEROS" = some (.int (40) (Classical.choose Z.e_MOST_ZEROS)) := Classical.choose_spec Z.e_MOST_ZEROS
/-! ### the promises -/
def Bits (bs : List Int) : Prop := ∀ b ∈ bs, isBit b
def goodV (x : V) : Bool := match x with
  | .int b => decide (0 ≤ b) && decide (b ≤ 1)
  | _ => false
/-- the things that lie in a list of bits, or spoil it -/
inductive Thg (H : Hp) : V → Prop
  | int (i : Int) : Thg H (.int i)
  | non : Thg H .non
  | str (s : Str) : Thg H (.str s)
  | lst {a : Addr} {xs : List V} (h : H a = some (.lst xs)) : Thg H (.ref a)
/-- the three ways of a reading: something is no bit, the place is wrong, or it is read -/
def Way (mg : Str → Option Value) (xs : List V) (n : Int) (H : Hp) (E : XK) (A : List Int → Nat → Prop) : Prop :=
  (xs.all goodV = false ∧ E (.ref (exA mg "BadBits")) none H) ∨ (xs.all goodV = true ∧ ¬ (0 ≤ n ∧ n ≤ xs.length) ∧ E (.ref (exA mg "Outside")) none H) ∨
  (∃ (bs : List Int) (m : Nat), xs = bs.map V.int ∧ Bits bs ∧ n = (m : Int) ∧ m ≤ bs.length ∧ bs.length ≤ 10000 ∧ A bs m)
def sp_is_bit (_ : PySem.W.Frag) (_ : Str → Option Value) : Sp := SpN 1 fun vs H Q _ => ∃ x, vs = [x] ∧ Thg H x ∧ Q (.bl (goodV x)) H
def sp_check_bits (K : PySem.W.Frag) (mg : Str → Option Value) : Sp := SpN 1 fun vs H Q E => ∃ (a : Addr) (xs : List V), vs = [.ref a] ∧ SqL K H a xs ∧ (∀ x ∈ xs, Thg H x) ∧
  ((xs.all goodV = true ∧ Q .non H) ∨ (xs.all goodV = false ∧ E (.ref (exA mg "BadBits")) none H))
def sp_number_of (K : PySem.W.Frag) (_ : Str → Option Value) : Sp := SpN 1 fun vs H Q _ => ∃ (a : Addr) (bs : List Int), vs = [.ref a] ∧ SqL K H a (bs.map V.int) ∧ Q (.int (numL bs)) H
def unsgn (c : Int) : Int := if c % 2 = 0 then c / 2 else -((c + 1) / 2)
def sgR (vs : List V) : List V := match vs with
  | [.str s, .int c, .int p] => [.str s, .int (unsgn c), .int p]
  | _ => vs
def sp_count_at (K : PySem.W.Frag) (_ : Str → Option Value) : Sp := SpN 2 fun vs H Q _ => ∃ (a : Addr) (bs : List Int) (n : Nat), vs = [.ref a, .int n] ∧ SqL K H a (bs.map V.int) ∧ n ≤ bs.length ∧ bs.length ≤ 10000 ∧
  ∀ p H', Same H H' → H p = none → H' p = some (.tup (cntR bs n)) → Q (.ref p) H'
def sp_signed_at (K : PySem.W.Frag) (_ : Str → Option Value) : Sp := SpN 2 fun vs H Q _ => ∃ (a : Addr) (bs : List Int) (n : Nat), vs = [.ref a, .int n] ∧ SqL K H a (bs.map V.int) ∧ n ≤ bs.length ∧ bs.length ≤ 10000 ∧
  ∀ p H', Same H H' → H p = none → H' p = some (.tup (sgR (cntR bs n))) → Q (.ref p) H'
def sp_check_place (K : PySem.W.Frag) (mg : Str → Option Value) : Sp := SpN 2 fun vs H Q E => ∃ (a : Addr) (xs : List V) (n : Int), vs = [.ref a, .int n] ∧ SqL K H a xs ∧ (∀ x ∈ xs, Thg H x) ∧ Way mg xs n H E (fun _ _ => Q .non H)
def sp_read_count (K : PySem.W.Frag) (mg : Str → Option Value) : Sp := SpN 2 fun vs H Q E => ∃ (a : Addr) (xs : List V) (n : Int), vs = [.ref a, .int n] ∧ SqL K H a xs ∧ (∀ x ∈ xs, Thg H x) ∧
  Way mg xs n H E fun bs m => ∀ p H', Same H H' → H p = none → H' p = some (.tup (cntR bs m)) → Q (.ref p) H'
def sp_read_signed (K : PySem.W.Frag) (mg : Str → Option Value) : Sp := SpN 2 fun vs H Q E => ∃ (a : Addr) (xs : List V) (n : Int), vs = [.ref a, .int n] ∧ SqL K H a xs ∧ (∀ x ∈ xs, Thg H x) ∧
  Way mg xs n H E fun bs m => ∀ p H', Same H H' → H p = none → H' p = some (.tup (sgR (cntR bs m))) → Q (.ref p) H'
def sp_law_pool (K : PySem.W.Frag) (_ : Str → Option Value) : Sp := SpN 2 fun vs H Q _ => ∃ (s : Addr) (ns : List Int) (k : Int), vs = [.ref s, .int k] ∧ SqL K H s (ns.map V.int) ∧ 0 ≤ k ∧ k < 100 ∧
  ∀ p H', Src H H' p → Q (.ref p) H'
def sp_law_take (_ : PySem.W.Frag) (_ : Str → Option Value) : Sp := SpN 2 fun vs H Q _ => ∃ (F : Hp) (p : Addr) (t : Int), vs = [.ref p, .int t] ∧ Src F H p ∧ 0 < t ∧ t < 1073741824 ∧
  ∀ r H', Src F H' p → Stp (S1 p) F H F H' → 0 ≤ r → r < t → Q (.int r) H'
def sp_law_one (K : PySem.W.Frag) (_ : Str → Option Value) : Sp := SpN 2 fun vs H Q _ => ∃ (F : Hp) (p q : Addr) (xs : List V), vs = [.ref p, .ref q] ∧ Src F H p ∧ SqL K F q xs ∧ 0 < xs.length ∧ xs.length < 1000 ∧
  ∀ r H', Src F H' p → Stp (S1 p) F H F H' → r ∈ xs → Q r H'
def sp_law_bits (_ : PySem.W.Frag) (_ : Str → Option Value) : Sp := SpN 2 fun vs H Q _ => ∃ (F : Hp) (p : Addr) (m : Int), vs = [.ref p, .int m] ∧ Src F H p ∧ 0 ≤ m ∧ m ≤ 1000 ∧
  ∀ q bs F' H', Src F' H' p → Stp (S1 p) F H F' H' → F' q = some (.lst (bs.map V.int)) → Bits bs → (bs.length : Int) ≤ m → Q (.ref q) H'
def sp_law_list (_ : PySem.W.Frag) (_ : Str → Option Value) : Sp := SpN 1 fun vs H Q _ => ∃ (F : Hp) (p : Addr), vs = [.ref p] ∧ Src F H p ∧
  ∀ q bs F' H', Src F' H' p → Stp (S1 p) F H F' H' → F' q = some (.lst (bs.map V.int)) → Bits bs → bs.length ≤ 200 → Q (.ref q) H'
def sp_law_read (K : PySem.W.Frag) (_ : Str → Option Value) : Sp := SpN 2 fun vs H Q _ => ∃ (a : Addr) (bs : List Int) (n : Nat), vs = [.ref a, .int n] ∧ SqL K H a (bs.map V.int) ∧ n ≤ bs.length ∧ bs.length ≤ 10000 ∧
  ∀ p H', Same H H' → H p = none → H' p = some (.tup (cntR bs n)) → Q (.ref p) H'
def sp_law_signed (_ : PySem.W.Frag) (_ : Str → Option Value) : Sp := SpN 1 fun vs H Q _ => ∃ (a : Addr) (bs : List Int) (n : Nat), vs = [.ref a] ∧ H a = some (.tup (cntR bs n)) ∧
  ∀ p H', Same H H' → H' p = some (.tup (sgR (cntR bs n))) → Q (.ref p) H'
/-- what is told of a reading -/
inductive Tld : Bool → List V → Int → List V → Prop
  | bad {sg : Bool} {xs : List V} {n : Int} (h : xs.all goodV = false) : Tld sg xs n [.str "bits", .bl true, .bl false]
  | out {sg : Bool} {xs : List V} {n : Int} (h : xs.all goodV = true) (h2 : ¬ (0 ≤ n ∧ n ≤ xs.length)) : Tld sg xs n [.str "outside", .bl true, .bl false]
  | rd {sg : Bool} {bs : List Int} {m : Nat} (hb : Bits bs) (hm : m ≤ bs.length) (hl : bs.length ≤ 10000) : Tld sg (bs.map V.int) m (if sg = true then sgR (cntR bs m) else cntR bs m)
def sp_law_word (K : PySem.W.Frag) (_ : Str → Option Value) : Sp := SpN 3 fun vs H Q _ => ∃ (sg : Bool) (a : Addr) (xs : List V) (n : Int) (r : List V), vs = [.bl sg, .ref a, .int n] ∧ SqL K H a xs ∧ (∀ x ∈ xs, Thg H x) ∧ Tld sg xs n r ∧
  ∀ p H', Same H H' → H' p = some (.tup r) → Q (.ref p) H'
def sp_law_refused_right (K : PySem.W.Frag) (_ : Str → Option Value) : Sp := SpN 2 fun vs H Q _ => ∃ (F : Hp) (p q : Addr) (bs : List Int), vs = [.ref p, .ref q] ∧ Src F H p ∧ F q = some (.lst (bs.map V.int)) ∧ Bits bs ∧ bs.length ≤ 200 ∧
  ∀ F' H', Src F' H' p → Stp (S1 p) F H F' H' → Q (.bl true) H'
def sp_lawK (K : PySem.W.Frag) : Sp := SpN 1 fun vs H Q _ => ∃ (a : Addr) (ns : List Int), vs = [.ref a] ∧ SqL K H a (ns.map V.int) ∧ ns.length ≤ 63 ∧ ∀ H', Q (.bl true) H'
def sp_law (K : PySem.W.Frag) (_ : Str → Option Value) : Sp := sp_lawK K
theorem law_start {K : PySem.W.Frag} {H : Hp} {a : Addr} {ns : List Int} {E : XK} (hl : ns.length ≤ 63) (hS : SqL K H a (ns.map V.int)) : sp_lawK K [.ref a] H (fun v _ => v = .bl true) E := ⟨rfl, a, ns, rfl, hS, hl, fun _ => rfl⟩
theorem Bits.app {a b : List Int} (ha : Bits a) (hb : Bits b) : Bits (a ++ b) := fun x hx => (List.mem_append.mp hx).elim (ha x) (hb x)
theorem at_nat' {xs : List V} {j : Nat} {v : V} (h : xs[j]? = some v) : atI xs (j : Int) = some v := atI_nat h
theorem Stp.weak {S : Addr → Prop} {F H F' H' : Hp} (a : Stp S F H F' H') : Stp S F H F H' := ⟨Same.refl F, a.ff.trans a.fh, fun _ _ _ => rfl, a.keep, a.dom⟩
theorem Stp.ofSame {S : Addr → Prop} {F H H' : Hp} (h : Same F H) (s : Same H H') : Stp S F H F H' := ⟨Same.refl F, h.trans s, fun _ _ _ => rfl, fun b o _ e => s b o e, fun b o e => ⟨o, s b o e⟩⟩
theorem ixN_at {n : Nat} {i : Int} (h0 : 0 ≤ i) (h1 : i.toNat < n) : ixN n i = some i.toNat := by
  unfold ixN
  rw [if_pos h0, if_pos (by omega)]
theorem good_bits {bs : List Int} (h : Bits bs) : (bs.map V.int).all goodV = true := by
  rw [List.all_eq_true]
  intro x hx
  obtain ⟨b, hb, rfl⟩ := List.mem_map.mp hx
  rcases h b hb with rfl | rfl <;> rfl
theorem thg_ints (H : Hp) (bs : List Int) : ∀ x ∈ bs.map V.int, Thg H x := fun x hx => by
  obtain ⟨b, _, rfl⟩ := List.mem_map.mp hx
  exact .int b
theorem cntR_flat (bs : List Int) (n : Nat) : (cntR bs n).all flatW = true := by
  unfold cntR
  split
  · decide +kernel
  · split
    · decide +kernel
    · show (PyData.strOk (Str.ofString "read") && (true && (true && true))) = true
      decide +kernel
theorem sgR_flat {vs : List V} (h : vs.all flatW = true) : (sgR vs).all flatW = true := by
  unfold sgR
  split
  · simp only [List.all_cons, Bool.and_eq_true] at h ⊢
    exact ⟨h.1, rfl, rfl, rfl⟩
  · exact h
section
variable {P : Program} {w : World} {K : PySem.W.Frag} {mg : Str → Option Value} {base : Heap}
abbrev s_is_bit : Stmt := topS 6
theorem sc_is_bit : FnScope ["thing"] ["thing"] (defScope s_is_bit) := ⟨rfl, rfl, rfl, by decide +kernel, rfl, by decide +kernel, by decide +kernel⟩
def Ok_is_bit (P : Program) (w : World) (K : PySem.W.Frag) (mg : Str → Option Value) (base : Heap) : Prop := ∃ fA fd, Fn P w K mg base (L2.CX P w) 1 "is_bit" s_is_bit fA fd ["thing"] (sp_is_bit K mg)
theorem okx_is_bit (Z : Zs K mg) {fA : Addr} {fd : FuncData} (F : Fun K "is_bit" "is_bit" s_is_bit fA fd) (m : mg "is_bit" = some (.ref fA))  : Fn P w K mg base (L2.CX P w) 1 "is_bit" s_is_bit fA fd ["thing"] (sp_is_bit K mg) := by
  refine ⟨F.okX sc_is_bit (fun vs H Q E h => h.1) (fun cdv A outer s H vs Q E hr h => ?_), m, F.kp, F.binds fun _ _ _ _ _ _ us hl => match us, hl with | [_], _ => rfl, F⟩
  have hu64 := hr.units
  obtain ⟨hlen, h⟩ := h
  refine ⟨_, (pss_one (ps_ret (pe_and (pe_callB (c_isi K rfl) (by rfl) Z.z_isinstance (by decide +kernel) (pa_cons (pv 0) (pa_cons (pe_bltn (v := .ty "int") (by rfl) Z.z_int (by decide +kernel) rfl) pa_nil))) (pe_and (pe_not (pe_callB (c_isi K rfl) (by rfl) Z.z_isinstance (by decide +kernel) (pa_cons (pv 0) (pa_cons (pe_bltn (v := .ty "bool") (by rfl) Z.z_bool (by decide +kernel) rfl) pa_nil)))) (pe_one (pe_chain op_le op_le pe_int (pv 0) pe_int)))))), ?_⟩
  obtain ⟨x, rfl, ht, q⟩ := h
  cases ht with
  | int b =>
    walk_at "r"
    refine s_isi (b := true) (.base (.int b)) (by decide +kernel) ?_
    walk_at "r"
    refine s_isi (b := false) (.base (.int b)) (by decide +kernel) ?_
    walk_at "r"
    refine ifd (fun h => ?_) (fun h => ?_)
    · walk_at "r"
      have e : goodV (.int b) = decide (b ≤ 1) := by unfold goodV; simp [h]
      rw [e] at q
      exact q
    · have e : goodV (.int b) = false := by unfold goodV; simp [h]
      rw [e] at q
      exact q
  | non =>
    walk_at "r"
    refine s_isi (b := false) (.base .non) (by decide +kernel) ?_
    walk_at "r"
    exact q
  | str s =>
    walk_at "r"
    refine s_isi (b := false) (.base (.str s)) (by decide +kernel) ?_
    walk_at "r"
    exact q
  | lst ha =>
    walk_at "r"
    refine s_isi (b := false) (.base (.lst ha)) (by decide +kernel) ?_
    walk_at "r"
    exact q
abbrev s_check_bits : Stmt := topS 7
theorem sc_check_bits : FnScope ["bits", "bit"] ["bits"] (defScope s_check_bits) := ⟨rfl, rfl, rfl, by decide +kernel, rfl, by decide +kernel, by decide +kernel⟩
def Ok_check_bits (P : Program) (w : World) (K : PySem.W.Frag) (mg : Str → Option Value) (base : Heap) : Prop := ∃ fA fd, Fn P w K mg base (L2.CX P w) 2 "check_bits" s_check_bits fA fd ["bits"] (sp_check_bits K mg)
theorem okx_check_bits (Z : Zs K mg) {fA : Addr} {fd : FuncData} (F : Fun K "check_bits" "check_bits" s_check_bits fA fd) (m : mg "check_bits" = some (.ref fA)) (C_is_bit : Ok_is_bit P w K mg base) : Fn P w K mg base (L2.CX P w) 2 "check_bits" s_check_bits fA fd ["bits"] (sp_check_bits K mg) := by
  obtain ⟨_, _, C_is_bit⟩ := C_is_bit
  refine ⟨F.okX sc_check_bits (fun vs H Q E h => h.1) (fun cdv A outer s H vs Q E hr h => ?_), m, F.kp, F.binds fun _ _ _ _ _ _ us hl => match us, hl with | [_], _ => rfl, F⟩
  have hu64 := hr.units
  obtain ⟨hlen, h⟩ := h
  refine ⟨_, (pss_one (ps_for (passes_of rfl) rfl (pi_list (pv 0)) (pg_name (i := 1) sc_check_bits.nd rfl (Or.inl rfl))
      (pss_one (ps_if (pt_not (pt_val (pe_call C_is_bit.G (hr.mono (by decide)) rfl C_is_bit.m C_is_bit.kp C_is_bit.b .nil passL (pa_cons (pv 1) pa_nil))))
      (pss_one (ps_raise rfl (takes_of rfl rfl rfl rfl) (pmk_own0 PySem.F.excBase_ValueError Z.x_BadBits.x Z.x_BadBits.g Z.x_BadBits.k (raises_own Z.x_BadBits.b Z.x_BadBits.t) rfl)))
      pss_nil)))), ?_⟩
  obtain ⟨a, xs, rfl, hS, ht, hh⟩ := h
  walk_at "r"
  refine ⟨_, rfl, ⟨_, hS⟩, ?_⟩
  refine forL (xs := xs) (fun i σ H' => ∃ v, σ = [some (.ref a), v] ∧ H = H' ∧ ∀ x ∈ xs.take i, goodV x = true) ⟨_, rfl, rfl, by simp⟩ (fun i σ H' _ ⟨_, _, e, _⟩ => e ▸ hS) ?_ ?_
  · rintro i x σ H' hx ⟨v, rfl, rfl, hg⟩
    cases e : goodV x with
    | true =>
      walk_at "r"
      refine ⟨rfl, x, rfl, ht x (List.mem_of_getElem? hx), ?_⟩
      rw [e]
      walk_at "r"
      refine ⟨_, rfl, rfl, fun y hy => ?_⟩
      obtain ⟨hi, hx'⟩ := List.getElem?_eq_some_iff.mp hx
      rw [List.take_succ_eq_append_getElem hi, List.mem_append] at hy
      rcases hy with hy | hy
      · exact hg y hy
      · rw [hx', List.mem_singleton] at hy; rw [hy, e]
    | false =>
      walk_at "r"
      refine ⟨rfl, x, rfl, ht x (List.mem_of_getElem? hx), ?_⟩
      rw [e]
      walk_at "r"
      rcases hh with ⟨z, _⟩ | ⟨_, q⟩
      · rw [List.all_eq_true] at z
        rw [z x (List.mem_of_getElem? hx)] at e
        cases e
      · exact q
  · rintro σ H' ⟨v, rfl, rfl, hg⟩
    rw [List.take_length, ← List.all_eq_true] at hg
    rcases hh with ⟨_, q⟩ | ⟨z, _⟩
    · walk_at "r"
      exact q
    · rw [hg] at z; cases z
abbrev s_number_of : Stmt := topS 8
theorem sc_number_of : FnScope ["bits", "found", "bit"] ["bits"] (defScope s_number_of) := ⟨rfl, rfl, rfl, by decide +kernel, rfl, by decide +kernel, by decide +kernel⟩
def Ok_number_of (P : Program) (w : World) (K : PySem.W.Frag) (mg : Str → Option Value) (base : Heap) : Prop := ∃ fA fd, Fn P w K mg base (L2.CX P w) 1 "number_of" s_number_of fA fd ["bits"] (sp_number_of K mg)
theorem okx_number_of (Z : Zs K mg) {fA : Addr} {fd : FuncData} (F : Fun K "number_of" "number_of" s_number_of fA fd) (m : mg "number_of" = some (.ref fA))  : Fn P w K mg base (L2.CX P w) 1 "number_of" s_number_of fA fd ["bits"] (sp_number_of K mg) := by
  refine ⟨F.okX sc_number_of (fun vs H Q E h => h.1) (fun cdv A outer s H vs Q E hr h => ?_), m, F.kp, F.binds fun _ _ _ _ _ _ us hl => match us, hl with | [_], _ => rfl, F⟩
  have hu64 := hr.units
  obtain ⟨hlen, h⟩ := h
  refine ⟨_, (pss_cons (ps_set (i := 1) sc_number_of.nd rfl (Or.inl rfl) pe_int)
    (pss_cons (ps_for (passes_of rfl) rfl (pi_list (pv 0)) (pg_name (i := 2) sc_number_of.nd rfl (Or.inl rfl))
      (pss_one (ps_set (i := 1) sc_number_of.nd rfl (Or.inl rfl) (pe_op op_add (pe_op op_mul pe_int (pv 1)) (pv 2)))))
    (pss_one (ps_ret (pv 1))))), ?_⟩
  obtain ⟨a, bs, rfl, hS, q⟩ := h
  walk_at "r"
  refine ⟨_, rfl, ⟨_, hS⟩, ?_⟩
  refine forL (xs := bs.map V.int) (fun i σ H' => ∃ v, σ = [some (.ref a), some (.int (numL (bs.take i))), v] ∧ H = H') ⟨_, rfl, rfl⟩ (fun i σ H' _ ⟨_, _, e⟩ => e ▸ hS) ?_ ?_
  · rintro i x σ H' hx ⟨v, rfl, rfl⟩
    rw [List.getElem?_map] at hx
    cases z : bs[i]? with
    | none => rw [z] at hx; cases hx
    | some b =>
      rw [z] at hx
      cases hx
      have hi : i < bs.length := (List.getElem?_eq_some_iff.mp z).1
      have et : bs.take (i + 1) = bs.take i ++ [b] := by
        rw [List.take_succ_eq_append_getElem hi]
        rw [List.getElem?_eq_getElem hi] at z
        rw [Option.some.inj z]
      have hv : 2 * numL (bs.take i) + b = numL (bs.take (i + 1)) := by rw [et, numL_snoc]
      walk_at "r"
      rw [hv]
      exact ⟨_, rfl, rfl⟩
  · rintro σ H' ⟨v, rfl, rfl⟩
    rw [List.length_map, List.take_length]
    walk_at "r"
    exact q
abbrev s_count_at : Stmt := topS 9
theorem sc_count_at : FnScope ["bits", "at", "place", "zeros", "behind"] ["bits", "at"] (defScope s_count_at) := ⟨rfl, rfl, rfl, by decide +kernel, rfl, by decide +kernel, by decide +kernel⟩
def Ok_count_at (P : Program) (w : World) (K : PySem.W.Frag) (mg : Str → Option Value) (base : Heap) : Prop := ∃ fA fd, Fn P w K mg base (L2.CX P w) 2 "count_at" s_count_at fA fd ["bits", "at"] (sp_count_at K mg)
theorem okx_count_at (Z : Zs K mg) {fA : Addr} {fd : FuncData} (F : Fun K "count_at" "count_at" s_count_at fA fd) (m : mg "count_at" = some (.ref fA)) (C_number_of : Ok_number_of P w K mg base) : Fn P w K mg base (L2.CX P w) 2 "count_at" s_count_at fA fd ["bits", "at"] (sp_count_at K mg) := by
  obtain ⟨_, _, C_number_of⟩ := C_number_of
  refine ⟨F.okX sc_count_at (fun vs H Q E h => h.1) (fun cdv A outer s H vs Q E hr h => ?_), m, F.kp, F.binds fun _ _ _ _ _ _ us hl => match us, hl with | [_, _], _ => rfl, F⟩
  have hu64 := hr.units
  obtain ⟨hlen, h⟩ := h
  refine ⟨_, (pss_cons (ps_set (i := 2) sc_count_at.nd rfl (Or.inl rfl) (pv 1))
    (pss_cons (ps_while (passes_of rfl) (PW.pt (pw_and (pt_cmpR op_lt (pv 2) (pe_callB (c_len K rfl) (by rfl) Z.z_len (by decide +kernel) (pa_cons (pv 0) pa_nil)) (nomark _)) (pw_and (pt_cmpR op_le (pe_op op_sub (pv 2) (pv 1)) (pe_glob (v := .int (40)) rfl Z.c_MOST_ZEROS ⟨_, rfl⟩) (nomark _)) (pw_and1 (pt_cmpR op_eq (pe_ix (i_list K rfl) (pv 0) (pv 2) (fun _ _ => rfl)) pe_int (nomark _))))))
      (pss_one (ps_set (i := 2) sc_count_at.nd rfl (Or.inl rfl) (pe_op op_add (pv 2) pe_int))))
    (pss_cons (ps_set (i := 3) sc_count_at.nd rfl (Or.inl rfl) (pe_op op_sub (pv 2) (pv 1)))
    (pss_cons (ps_if (pt_cmpR op_gt (pv 3) (pe_glob (v := .int (40)) rfl Z.c_MOST_ZEROS ⟨_, rfl⟩) (nomark _))
      (pss_one (ps_ret (pe_tup (pa_cons pe_str pa_nil))))
      pss_nil)
    (pss_cons (ps_set (i := 4) sc_count_at.nd rfl (Or.inl rfl) (pe_op op_add (pe_op op_add (pv 2) (pv 3)) pe_int))
    (pss_cons (ps_if (pt_cmpR op_gt (pv 4) (pe_callB (c_len K rfl) (by rfl) Z.z_len (by decide +kernel) (pa_cons (pv 0) pa_nil)) (nomark _))
      (pss_one (ps_ret (pe_tup (pa_cons pe_str pa_nil))))
      pss_nil)
    (pss_one (ps_ret (pe_tup (pa_cons pe_str (pa_cons (pe_op op_sub (pe_call C_number_of.G (hr.mono (by decide)) rfl C_number_of.m C_number_of.kp C_number_of.b .nil passL (pa_cons (pe_slice (l_list K rfl) (pv 0) (po_some (pv 2)) (po_some (pv 4))) pa_nil)) pe_int) (pa_cons (pv 4) pa_nil)))))))))))), ?_⟩
  obtain ⟨a, bs, n, rfl, hS, hn, hlen, q⟩ := h
  have hz := zrun_le hn
  walk_at "r"
  refine whileM (mon_and (mon_test (mon_op mon_I0 mon_var (mon_len (mon_cons mon_var mon_nil)))) (mon_and (mon_test (mon_op mon_I0 (mon_op mon_I0 mon_var mon_var) mon_c)) (mon_test (mon_op mon_eq (mon_op mon_ixL mon_var mon_var) mon_c))))
    (fun σ H' => ∃ j : Nat, σ = [some (.ref a), some (.int n), some (.int ((n + j : Nat) : Int)), none, none] ∧ H = H' ∧ j ≤ min 41 (zrun bs n)) (fun σ _ => match σ with
      | [_, _, some (.int p), _, _] => (n + 41 - p.toNat)
      | _ => 0) ⟨0, rfl, rfl, Nat.zero_le _⟩ ?_
  rintro σ H' ⟨j, rfl, rfl, hj⟩
  walk_at "r"
  refine ifd (fun h1 => ?_) (fun h1 => ?_)
  · walk_at "r"
    refine ifd (fun h2 => ?_) (fun h2 => ?_)
    · walk_at "r"
      have hl : n + j < bs.length := by simp at h1; omega
      refine s_ixL hS (at_nat' (get_int hl)) ?_
      walk_at "r"
      refine ifd (fun h3 => ?_) (fun h3 => ?_)
      · walk_at "r"
        have hlt : j < zrun bs n := by
          refine Decidable.byContradiction fun z => ?_
          have e : j = zrun bs n := by omega
          refine zrun_end (bs := bs) (a := n) ?_
          rw [← e, List.getElem?_eq_getElem hl, h3]
        refine ⟨⟨j + 1, ?_, rfl, by omega⟩, ?_⟩
        · rfl
        · show n + 41 - (((n + j : Nat) : Int) + 1).toNat < n + 41 - (((n + j : Nat) : Int)).toNat
          omega
      · have e : j = min 41 (zrun bs n) := by
          by_cases z : j < zrun bs n
          · have q2 := zrun_at z
            rw [List.getElem?_eq_getElem hl] at q2
            exact absurd (Option.some.inj q2) h3
          · omega
        -- behind the loop
        walk_at "r"
        have ez : ((n + j : Nat) : Int) - (n : Int) = (j : Int) := by omega
        rw [ez]
        refine ifd (fun h4 => ?_) (fun h4 => ?_)
        · walk_at "r"
          refine ⟨sz (by simp), fun p hp => q p _ (Stp.new (S := S0) (Same.refl _) hp).same hp ?_⟩
          rw [upd_same, cntR, if_pos (by omega)]
        · walk_at "r"
          refine ifd (fun h5 => ?_) (fun h5 => ?_)
          · walk_at "r"
            refine ⟨sz (by simp), fun p hp => q p _ (Stp.new (S := S0) (Same.refl _) hp).same hp ?_⟩
            rw [upd_same, cntR, if_neg (by omega), if_pos (by simp at h5; omega)]
          · walk_at "r"
            have eb : ((n + j : Nat) : Int) + (j : Int) + 1 = ((n + j + j + 1 : Nat) : Int) := by omega
            rw [eb]
            refine s_slL hS fun p1 hp1 => ?_
            rw [cutV_nat, show n + j + j + 1 - (n + j) = j + 1 by omega]
            have s1 := Stp.new (S := S0) (o := .lst (((bs.map V.int).drop (n + j)).take (j + 1))) (Same.refl _) hp1
            refine ⟨rfl, p1, (bs.drop (n + j)).take (j + 1), rfl, SqL.of (by rw [upd_same, List.map_take, List.map_drop]), ?_⟩
            walk_at "r"
            refine ⟨sz (by simp), fun p hp => q p _ (s1.same.trans (Stp.new (S := S0) (Same.refl _) hp).same) (s1.same.free hp) ?_⟩
            rw [upd_same, cntR, if_neg (by omega), if_neg (by simp at h5; omega), ← e]
    · have e : j = min 41 (zrun bs n) := by omega
      -- behind the loop
      walk_at "r"
      have ez : ((n + j : Nat) : Int) - (n : Int) = (j : Int) := by omega
      rw [ez]
      refine ifd (fun h4 => ?_) (fun h4 => ?_)
      · walk_at "r"
        refine ⟨sz (by simp), fun p hp => q p _ (Stp.new (S := S0) (Same.refl _) hp).same hp ?_⟩
        rw [upd_same, cntR, if_pos (by omega)]
      · walk_at "r"
        refine ifd (fun h5 => ?_) (fun h5 => ?_)
        · walk_at "r"
          refine ⟨sz (by simp), fun p hp => q p _ (Stp.new (S := S0) (Same.refl _) hp).same hp ?_⟩
          rw [upd_same, cntR, if_neg (by omega), if_pos (by simp at h5; omega)]
        · walk_at "r"
          have eb : ((n + j : Nat) : Int) + (j : Int) + 1 = ((n + j + j + 1 : Nat) : Int) := by omega
          rw [eb]
          refine s_slL hS fun p1 hp1 => ?_
          rw [cutV_nat, show n + j + j + 1 - (n + j) = j + 1 by omega]
          have s1 := Stp.new (S := S0) (o := .lst (((bs.map V.int).drop (n + j)).take (j + 1))) (Same.refl _) hp1
          refine ⟨rfl, p1, (bs.drop (n + j)).take (j + 1), rfl, SqL.of (by rw [upd_same, List.map_take, List.map_drop]), ?_⟩
          walk_at "r"
          refine ⟨sz (by simp), fun p hp => q p _ (s1.same.trans (Stp.new (S := S0) (Same.refl _) hp).same) (s1.same.free hp) ?_⟩
          rw [upd_same, cntR, if_neg (by omega), if_neg (by simp at h5; omega), ← e]
  · have e : j = min 41 (zrun bs n) := by simp at h1; omega
    -- behind the loop
    walk_at "r"
    have ez : ((n + j : Nat) : Int) - (n : Int) = (j : Int) := by omega
    rw [ez]
    refine ifd (fun h4 => ?_) (fun h4 => ?_)
    · walk_at "r"
      refine ⟨sz (by simp), fun p hp => q p _ (Stp.new (S := S0) (Same.refl _) hp).same hp ?_⟩
      rw [upd_same, cntR, if_pos (by omega)]
    · walk_at "r"
      refine ifd (fun h5 => ?_) (fun h5 => ?_)
      · walk_at "r"
        refine ⟨sz (by simp), fun p hp => q p _ (Stp.new (S := S0) (Same.refl _) hp).same hp ?_⟩
        rw [upd_same, cntR, if_neg (by omega), if_pos (by simp at h5; omega)]
      · walk_at "r"
        have eb : ((n + j : Nat) : Int) + (j : Int) + 1 = ((n + j + j + 1 : Nat) : Int) := by omega
        rw [eb]
        refine s_slL hS fun p1 hp1 => ?_
        rw [cutV_nat, show n + j + j + 1 - (n + j) = j + 1 by omega]
        have s1 := Stp.new (S := S0) (o := .lst (((bs.map V.int).drop (n + j)).take (j + 1))) (Same.refl _) hp1
        refine ⟨rfl, p1, (bs.drop (n + j)).take (j + 1), rfl, SqL.of (by rw [upd_same, List.map_take, List.map_drop]), ?_⟩
        walk_at "r"
        refine ⟨sz (by simp), fun p hp => q p _ (s1.same.trans (Stp.new (S := S0) (Same.refl _) hp).same) (s1.same.free hp) ?_⟩
        rw [upd_same, cntR, if_neg (by omega), if_neg (by simp at h5; omega), ← e]
abbrev s_signed_at : Stmt := topS 10
theorem sc_signed_at : FnScope ["bits", "at", "told", "count"] ["bits", "at"] (defScope s_signed_at) := ⟨rfl, rfl, rfl, by decide +kernel, rfl, by decide +kernel, by decide +kernel⟩
def Ok_signed_at (P : Program) (w : World) (K : PySem.W.Frag) (mg : Str → Option Value) (base : Heap) : Prop := ∃ fA fd, Fn P w K mg base (L2.CX P w) 3 "signed_at" s_signed_at fA fd ["bits", "at"] (sp_signed_at K mg)
theorem okx_signed_at (Z : Zs K mg) {fA : Addr} {fd : FuncData} (F : Fun K "signed_at" "signed_at" s_signed_at fA fd) (m : mg "signed_at" = some (.ref fA)) (C_count_at : Ok_count_at P w K mg base) : Fn P w K mg base (L2.CX P w) 3 "signed_at" s_signed_at fA fd ["bits", "at"] (sp_signed_at K mg) := by
  obtain ⟨_, _, C_count_at⟩ := C_count_at
  refine ⟨F.okX sc_signed_at (fun vs H Q E h => h.1) (fun cdv A outer s H vs Q E hr h => ?_), m, F.kp, F.binds fun _ _ _ _ _ _ us hl => match us, hl with | [_, _], _ => rfl, F⟩
  have hu64 := hr.units
  obtain ⟨hlen, h⟩ := h
  refine ⟨_, (pss_cons (ps_set (i := 2) sc_signed_at.nd rfl (Or.inl rfl) (pe_call C_count_at.G (hr.mono (by decide)) rfl C_count_at.m C_count_at.kp C_count_at.b .nil passL (pa_cons (pv 0) (pa_cons (pv 1) pa_nil))))
    (pss_cons (ps_if (pt_cmpR op_ne (pe_ix (i_tup K rfl) (pv 2) pe_int (fun _ _ => rfl)) pe_str (nomark _))
      (pss_one (ps_ret (pv 2)))
      pss_nil)
    (pss_cons (ps_set (i := 3) sc_signed_at.nd rfl (Or.inl rfl) (pe_ix (i_tup K rfl) (pv 2) pe_int (fun _ _ => rfl)))
    (pss_one (ps_ret (pe_tup (pa_cons pe_str (pa_cons (pe_ifExp (pt_cmpR op_eq (pe_op op_mod (pv 3) pe_int) pe_int (nomark _)) (pe_op op_fdiv (pv 3) pe_int) (pe_un un_neg (pe_op op_fdiv (pe_op op_add (pv 3) pe_int) pe_int))) (pa_cons (pe_ix (i_tup K rfl) (pv 2) pe_int (fun _ _ => rfl)) pa_nil))))))))), ?_⟩
  obtain ⟨a, bs, n, rfl, hS, hn, hlen, q⟩ := h
  walk_at "r"
  refine ⟨rfl, a, bs, n, rfl, hS, hn, hlen, fun p H1 e1 p0 hp => ?_⟩
  unfold cntR at hp q
  by_cases c1 : 40 < min 41 (zrun bs n)
  · rw [if_pos c1] at hp q
    walk_at "r"
    refine ifn (fun h => absurd h (by decide)) (fun h => ?_)
    walk_at "r"
    exact q p H1 e1 p0 hp
  · rw [if_neg c1] at hp q
    by_cases c2 : bs.length < n + min 41 (zrun bs n) + min 41 (zrun bs n) + 1
    · rw [if_pos c2] at hp q
      walk_at "r"
      refine ifn (fun h => absurd h (by decide)) (fun h => ?_)
      walk_at "r"
      exact q p H1 e1 p0 hp
    · rw [if_neg c2] at hp q
      walk_at "r"
      refine ifn (fun h => ?_) (fun h => absurd rfl h)
      generalize numL ((bs.drop (n + min 41 (zrun bs n))).take (min 41 (zrun bs n) + 1)) - 1 = c at hp q
      generalize ((n + min 41 (zrun bs n) + min 41 (zrun bs n) + 1 : Nat) : Int) = pl at hp q
      walk_at "r"
      refine ifd (fun h => ?_) (fun h => ?_)
      · walk_at "r"
        refine ⟨sz (by simp), fun p2 hp2 => q p2 _ (e1.trans (Stp.new (S := S0) (Same.refl _) hp2).same) (e1.free hp2) ?_⟩
        rw [upd_same, sgR, unsgn, if_pos h]
      · walk_at "r"
        refine ⟨sz (by simp), fun p2 hp2 => q p2 _ (e1.trans (Stp.new (S := S0) (Same.refl _) hp2).same) (e1.free hp2) ?_⟩
        rw [upd_same, sgR, unsgn, if_neg h]
abbrev s_check_place : Stmt := topS 11
theorem sc_check_place : FnScope ["bits", "at"] ["bits", "at"] (defScope s_check_place) := ⟨rfl, rfl, rfl, by decide +kernel, rfl, by decide +kernel, by decide +kernel⟩
def Ok_check_place (P : Program) (w : World) (K : PySem.W.Frag) (mg : Str → Option Value) (base : Heap) : Prop := ∃ fA fd, Fn P w K mg base (L2.CX P w) 3 "check_place" s_check_place fA fd ["bits", "at"] (sp_check_place K mg)
theorem okx_check_place (Z : Zs K mg) {fA : Addr} {fd : FuncData} (F : Fun K "check_place" "check_place" s_check_place fA fd) (m : mg "check_place" = some (.ref fA)) (C_check_bits : Ok_check_bits P w K mg base) : Fn P w K mg base (L2.CX P w) 3 "check_place" s_check_place fA fd ["bits", "at"] (sp_check_place K mg) := by
  obtain ⟨_, _, C_check_bits⟩ := C_check_bits
  refine ⟨F.okX sc_check_place (fun vs H Q E h => h.1) (fun cdv A outer s H vs Q E hr h => ?_), m, F.kp, F.binds fun _ _ _ _ _ _ us hl => match us, hl with | [_, _], _ => rfl, F⟩
  have hu64 := hr.units
  obtain ⟨hlen, h⟩ := h
  refine ⟨_, (pss_cons (ps_expr (pe_call C_check_bits.G (hr.mono (by decide)) rfl C_check_bits.m C_check_bits.kp C_check_bits.b .nil (passes_call (takes_of rfl rfl rfl rfl) (fun _ _ _ _ h => h)) (pa_cons (pv 0) pa_nil)))
    (pss_one (ps_if (pt_not (pt_chain op_le op_le pe_int (pv 1) (pe_callB (c_len K rfl) (by rfl) Z.z_len (by decide +kernel) (pa_cons (pv 0) pa_nil))))
      (pss_one (ps_raise rfl (takes_of rfl rfl rfl rfl) (pmk_own0 PySem.F.excBase_ValueError Z.x_Outside.x Z.x_Outside.g Z.x_Outside.k (raises_own Z.x_Outside.b Z.x_Outside.t) rfl)))
      pss_nil))), ?_⟩
  obtain ⟨a, xs, n, rfl, hS, ht, hh⟩ := h
  walk_at "r"
  rcases hh with ⟨hg, q⟩ | ⟨hg, hn, q⟩ | ⟨bs, m, rfl, hb, rfl, hm, hl, q⟩
  · exact ⟨rfl, a, xs, rfl, hS, ht, .inr ⟨hg, q⟩⟩
  · refine ⟨rfl, a, xs, rfl, hS, ht, .inl ⟨hg, ?_⟩⟩
    walk_at "r"
    refine ifd (fun h0 => ?_) (fun h0 => ?_)
    · walk_at "r"
      refine ifn (fun h1 => absurd ⟨h0, h1⟩ hn) (fun h1 => ?_)
      walk_at "r"
      exact q
    · walk_at "r"
      exact q
  · refine ⟨rfl, a, _, rfl, hS, ht, .inl ⟨good_bits hb, ?_⟩⟩
    walk_at "r"
    refine ifd (fun _ => ?_) (fun h => absurd (by omega) h)
    walk_at "r"
    refine ifn (fun _ => ?_) (fun h => absurd (by simp; omega) h)
    walk_at "r"
    exact q
abbrev s_read_count : Stmt := topS 12
theorem sc_read_count : FnScope ["bits", "at"] ["bits", "at"] (defScope s_read_count) := ⟨rfl, rfl, rfl, by decide +kernel, rfl, by decide +kernel, by decide +kernel⟩
def Ok_read_count (P : Program) (w : World) (K : PySem.W.Frag) (mg : Str → Option Value) (base : Heap) : Prop := ∃ fA fd, Fn P w K mg base (L2.CX P w) 4 "read_count" s_read_count fA fd ["bits", "at"] (sp_read_count K mg)
theorem okx_read_count (Z : Zs K mg) {fA : Addr} {fd : FuncData} (F : Fun K "read_count" "read_count" s_read_count fA fd) (m : mg "read_count" = some (.ref fA)) (C_count_at : Ok_count_at P w K mg base) (C_check_place : Ok_check_place P w K mg base) : Fn P w K mg base (L2.CX P w) 4 "read_count" s_read_count fA fd ["bits", "at"] (sp_read_count K mg) := by
  obtain ⟨_, _, C_count_at⟩ := C_count_at
  obtain ⟨_, _, C_check_place⟩ := C_check_place
  refine ⟨F.okX sc_read_count (fun vs H Q E h => h.1) (fun cdv A outer s H vs Q E hr h => ?_), m, F.kp, F.binds fun _ _ _ _ _ _ us hl => match us, hl with | [_, _], _ => rfl, F⟩
  have hu64 := hr.units
  obtain ⟨hlen, h⟩ := h
  refine ⟨_, (pss_cons (ps_expr (pe_call C_check_place.G (hr.mono (by decide)) rfl C_check_place.m C_check_place.kp C_check_place.b .nil (passes_call (takes_of rfl rfl rfl rfl) (fun _ _ _ _ h => h)) (pa_cons (pv 0) (pa_cons (pv 1) pa_nil))))
    (pss_one (ps_ret (pe_call C_count_at.G (hr.mono (by decide)) rfl C_count_at.m C_count_at.kp C_count_at.b .nil passL (pa_cons (pv 0) (pa_cons (pv 1) pa_nil)))))), ?_⟩
  obtain ⟨a, xs, n, rfl, hS, ht, hh⟩ := h
  walk_at "r"
  refine ⟨rfl, a, xs, n, rfl, hS, ht, ?_⟩
  rcases hh with ⟨hg, q⟩ | ⟨hg, hn, q⟩ | ⟨bs, m, rfl, hb, rfl, hm, hl, q⟩
  · exact .inl ⟨hg, q⟩
  · exact .inr (.inl ⟨hg, hn, q⟩)
  · refine .inr (.inr ⟨bs, m, rfl, hb, rfl, hm, hl, ?_⟩)
    walk_at "r"
    exact ⟨rfl, a, bs, m, rfl, hS, hm, hl, q⟩
abbrev s_read_signed : Stmt := topS 13
theorem sc_read_signed : FnScope ["bits", "at"] ["bits", "at"] (defScope s_read_signed) := ⟨rfl, rfl, rfl, by decide +kernel, rfl, by decide +kernel, by decide +kernel⟩
def Ok_read_signed (P : Program) (w : World) (K : PySem.W.Frag) (mg : Str → Option Value) (base : Heap) : Prop := ∃ fA fd, Fn P w K mg base (L2.CX P w) 4 "read_signed" s_read_signed fA fd ["bits", "at"] (sp_read_signed K mg)
theorem okx_read_signed (Z : Zs K mg) {fA : Addr} {fd : FuncData} (F : Fun K "read_signed" "read_signed" s_read_signed fA fd) (m : mg "read_signed" = some (.ref fA)) (C_signed_at : Ok_signed_at P w K mg base) (C_check_place : Ok_check_place P w K mg base) : Fn P w K mg base (L2.CX P w) 4 "read_signed" s_read_signed fA fd ["bits", "at"] (sp_read_signed K mg) := by
  obtain ⟨_, _, C_signed_at⟩ := C_signed_at
  obtain ⟨_, _, C_check_place⟩ := C_check_place
  refine ⟨F.okX sc_read_signed (fun vs H Q E h => h.1) (fun cdv A outer s H vs Q E hr h => ?_), m, F.kp, F.binds fun _ _ _ _ _ _ us hl => match us, hl with | [_, _], _ => rfl, F⟩
  have hu64 := hr.units
  obtain ⟨hlen, h⟩ := h
  refine ⟨_, (pss_cons (ps_expr (pe_call C_check_place.G (hr.mono (by decide)) rfl C_check_place.m C_check_place.kp C_check_place.b .nil (passes_call (takes_of rfl rfl rfl rfl) (fun _ _ _ _ h => h)) (pa_cons (pv 0) (pa_cons (pv 1) pa_nil))))
    (pss_one (ps_ret (pe_call C_signed_at.G (hr.mono (by decide)) rfl C_signed_at.m C_signed_at.kp C_signed_at.b .nil passL (pa_cons (pv 0) (pa_cons (pv 1) pa_nil)))))), ?_⟩
  obtain ⟨a, xs, n, rfl, hS, ht, hh⟩ := h
  walk_at "r"
  refine ⟨rfl, a, xs, n, rfl, hS, ht, ?_⟩
  rcases hh with ⟨hg, q⟩ | ⟨hg, hn, q⟩ | ⟨bs, m, rfl, hb, rfl, hm, hl, q⟩
  · exact .inl ⟨hg, q⟩
  · exact .inr (.inl ⟨hg, hn, q⟩)
  · refine .inr (.inr ⟨bs, m, rfl, hb, rfl, hm, hl, ?_⟩)
    walk_at "r"
    exact ⟨rfl, a, bs, m, rfl, hS, hm, hl, q⟩
abbrev s_law_pool : Stmt := topS 15
theorem sc_law_pool : FnScope ["_law_script", "_law_k", "_law_cell", "_law_big", "_law_mixed"] ["_law_script", "_law_k"] (defScope s_law_pool) := ⟨rfl, rfl, rfl, by decide +kernel, rfl, by decide +kernel, by decide +kernel⟩
def Ok_law_pool (P : Program) (w : World) (K : PySem.W.Frag) (mg : Str → Option Value) (base : Heap) : Prop := ∃ fA fd, Fn P w K mg base (L2.CX P w) 1 "_law_pool" s_law_pool fA fd ["_law_script", "_law_k"] (sp_law_pool K mg)
theorem okx_law_pool (Z : Zs K mg) {fA : Addr} {fd : FuncData} (F : Fun K "_law_pool" "_law_pool" s_law_pool fA fd) (m : mg "_law_pool" = some (.ref fA))  : Fn P w K mg base (L2.CX P w) 1 "_law_pool" s_law_pool fA fd ["_law_script", "_law_k"] (sp_law_pool K mg) := by
  refine ⟨F.okX sc_law_pool (fun vs H Q E h => h.1) (fun cdv A outer s H vs Q E hr h => ?_), m, F.kp, F.binds fun _ _ _ _ _ _ us hl => match us, hl with | [_, _], _ => rfl, F⟩
  have hu64 := hr.units
  obtain ⟨hlen, h⟩ := h
  refine ⟨_, (pss_cons (ps_set (i := 2) sc_law_pool.nd rfl (Or.inl rfl) pe_int)
    (pss_cons (ps_if (pt_cmpR op_lt (pv 1) (pe_callB (c_len K rfl) (by rfl) Z.z_len (by decide +kernel) (pa_cons (pv 0) pa_nil)) (nomark _))
      (pss_one (ps_set (i := 2) sc_law_pool.nd rfl (Or.inl rfl) (pe_ix (i_list K rfl) (pv 0) (pv 1) (fun _ _ => rfl))))
      pss_nil)
    (pss_cons (ps_set (i := 3) sc_law_pool.nd rfl (Or.inl rfl) (pe_callB (c_max2 rfl) (by rfl) Z.z_max (by decide +kernel) (pa_cons (pe_callTy c_int1 (by rfl) Z.z_int (by decide +kernel) (pa_cons (pv 2) pa_nil)) (pa_cons (pe_callTy c_int1 (by rfl) Z.z_int (by decide +kernel) (pa_cons (pe_op op_sub (pe_un un_neg pe_int) (pv 2)) pa_nil)) pa_nil))))
    (pss_cons (ps_set (i := 4) sc_law_pool.nd rfl (Or.inl rfl) (pe_op op_mod (pe_callTy c_int1 (by rfl) Z.z_int (by decide +kernel) (pa_cons (pe_op op_mul (pe_op op_add (pe_op op_add (pe_op op_add (pe_op op_mod (pe_callTy c_int1 (by rfl) Z.z_int (by decide +kernel) (pa_cons (pv 3) pa_nil)) pe_int) (pe_op op_mul (pe_op op_mul pe_int (pv 1)) (pv 1))) (pe_op op_mul pe_int (pv 1))) pe_int) pe_int) pa_nil)) pe_int))
    (pss_one (ps_ret (pe_lst (pa_cons (pe_op op_mul (pv 3) (pe_callTy c_int1 (by rfl) Z.z_int (by decide +kernel) (pa_cons (pe_cmpR op_ge (pv 3) (pe_op op_pow pe_int pe_int) (nomark _)) pa_nil))) (pa_cons (pv 4) pa_nil))))))))), ?_⟩
  obtain ⟨s, ns, k, rfl, hS, hk0, hk, q⟩ := h
  have fin : ∀ (x y : Int), 0 ≤ y → y < 2147483647 → (∀ p, H p = none → Q (.ref p) (upd H p (.lst [.int x, .int y]))) := fun x y y0 y1 p hp =>
    q p _ ⟨(Stp.new (S := S0) (Same.refl H) hp).same, hp, x, y, upd_same, y0, y1⟩
  walk_at "r"
  refine ifd (fun h => ?_) (fun h => ?_)
  · walk_at "r"
    have hl : k.toNat < ns.length := by simp at h; omega
    refine s_ixL hS (at_of (j := k.toNat) (by omega) (get_int hl)) ?_
    walk_at "r"
    exact ⟨sz (by simp), fin _ _ (Int.emod_nonneg _ (by decide)) (Int.emod_lt_of_pos _ (by decide))⟩
  · walk_at "r"
    exact ⟨sz (by simp), fin _ _ (Int.emod_nonneg _ (by decide)) (Int.emod_lt_of_pos _ (by decide))⟩
abbrev s_law_take : Stmt := topS 16
theorem sc_law_take : FnScope ["_law_source", "_law_most", "_law_drawn"] ["_law_source", "_law_most"] (defScope s_law_take) := ⟨rfl, rfl, rfl, by decide +kernel, rfl, by decide +kernel, by decide +kernel⟩
def Ok_law_take (P : Program) (w : World) (K : PySem.W.Frag) (mg : Str → Option Value) (base : Heap) : Prop := ∃ fA fd, Fn P w K mg base (L2.CX P w) 1 "_law_take" s_law_take fA fd ["_law_source", "_law_most"] (sp_law_take K mg)
theorem okx_law_take (Z : Zs K mg) {fA : Addr} {fd : FuncData} (F : Fun K "_law_take" "_law_take" s_law_take fA fd) (m : mg "_law_take" = some (.ref fA))  : Fn P w K mg base (L2.CX P w) 1 "_law_take" s_law_take fA fd ["_law_source", "_law_most"] (sp_law_take K mg) := by
  refine ⟨F.okX sc_law_take (fun vs H Q E h => h.1) (fun cdv A outer s H vs Q E hr h => ?_), m, F.kp, F.binds fun _ _ _ _ _ _ us hl => match us, hl with | [_, _], _ => rfl, F⟩
  have hu64 := hr.units
  obtain ⟨hlen, h⟩ := h
  refine ⟨_, (pss_cons (ps_if (pt_cmpR op_gt (pe_ix (i_list K rfl) (pv 0) pe_int (fun _ _ => rfl)) pe_int (nomark _))
      (pss_cons (ps_set (i := 2) sc_law_take.nd rfl (Or.inl rfl) (pe_op op_mod (pe_callTy c_int1 (by rfl) Z.z_int (by decide +kernel) (pa_cons (pe_ix (i_list K rfl) (pv 0) pe_int (fun _ _ => rfl)) pa_nil)) (pv 1)))
    (pss_cons (ps_asg (pe_op op_fdiv (pe_ix (i_list K rfl) (pv 0) pe_int (fun _ _ => rfl)) (pv 1)) (pg_sub (pv 0) pe_int set_list))
    (pss_one (ps_ret (pv 2)))))
      pss_nil)
    (pss_cons (ps_asg (pe_op op_mod (pe_callTy c_int1 (by rfl) Z.z_int (by decide +kernel) (pa_cons (pe_op op_add (pe_op op_mul (pe_ix (i_list K rfl) (pv 0) pe_int (fun _ _ => rfl)) pe_int) pe_int) pa_nil)) pe_int) (pg_sub (pv 0) pe_int set_list))
    (pss_one (ps_ret (pe_op op_mod (pe_callTy c_int1 (by rfl) Z.z_int (by decide +kernel) (pa_cons (pe_op op_fdiv (pe_op op_mod (pe_callTy c_int1 (by rfl) Z.z_int (by decide +kernel) (pa_cons (pe_op op_mul (pe_ix (i_list K rfl) (pv 0) pe_int (fun _ _ => rfl)) (pe_ix (i_list K rfl) (pv 0) pe_int (fun _ _ => rfl))) pa_nil)) pe_int) pe_int) pa_nil)) (pv 1)))))), ?_⟩
  obtain ⟨F0, p, t, rfl, hs, ht, ht2, q⟩ := h
  obtain ⟨hs0, hp0, a, b, hp, hb0, hb1⟩ := id hs
  have st : ∀ o, Stp (S1 p) F0 H F0 (upd H p o) := fun o => Stp.wr hs0 rfl hp0
  walk_at "r"
  refine ifd (fun h => ?_) (fun h => ?_)
  · walk_at "r"
    exact q _ _ (hs.wr hb0 hb1) (st _) (Int.emod_nonneg _ (by omega)) (Int.emod_lt_of_pos _ ht)
  · walk_at "r"
    exact q _ _ (hs.wr (Int.emod_nonneg _ (by decide)) (Int.emod_lt_of_pos _ (by decide))) (st _) (Int.emod_nonneg _ (by omega)) (Int.emod_lt_of_pos _ ht)
abbrev s_law_one : Stmt := topS 17
theorem sc_law_one : FnScope ["_law_source", "_law_things"] ["_law_source", "_law_things"] (defScope s_law_one) := ⟨rfl, rfl, rfl, by decide +kernel, rfl, by decide +kernel, by decide +kernel⟩
def Ok_law_one (P : Program) (w : World) (K : PySem.W.Frag) (mg : Str → Option Value) (base : Heap) : Prop := ∃ fA fd, Fn P w K mg base (L2.CX P w) 2 "_law_one" s_law_one fA fd ["_law_source", "_law_things"] (sp_law_one K mg)
theorem okx_law_one (Z : Zs K mg) {fA : Addr} {fd : FuncData} (F : Fun K "_law_one" "_law_one" s_law_one fA fd) (m : mg "_law_one" = some (.ref fA)) (C_law_take : Ok_law_take P w K mg base) : Fn P w K mg base (L2.CX P w) 2 "_law_one" s_law_one fA fd ["_law_source", "_law_things"] (sp_law_one K mg) := by
  obtain ⟨_, _, C_law_take⟩ := C_law_take
  refine ⟨F.okX sc_law_one (fun vs H Q E h => h.1) (fun cdv A outer s H vs Q E hr h => ?_), m, F.kp, F.binds fun _ _ _ _ _ _ us hl => match us, hl with | [_, _], _ => rfl, F⟩
  have hu64 := hr.units
  obtain ⟨hlen, h⟩ := h
  refine ⟨_, (pss_one (ps_ret (pe_ix (i_list K rfl) (pv 1) (pe_call C_law_take.G (hr.mono (by decide)) rfl C_law_take.m C_law_take.kp C_law_take.b .nil passL (pa_cons (pv 0) (pa_cons (pe_callB (c_len K rfl) (by rfl) Z.z_len (by decide +kernel) (pa_cons (pv 1) pa_nil)) pa_nil))) (fun _ _ => rfl)))), ?_⟩
  obtain ⟨F0, p, a, xs, rfl, hs, hn, hn0, hn1, q⟩ := h
  have ha := hs.1.seq hn
  walk_at "r"
  refine ⟨rfl, F0, p, _, rfl, hs, by omega, by omega, fun r H1 s1 st1 r0 r1 => ?_⟩
  walk_at "r"
  have hl : r.toNat < xs.length := by omega
  exact s_ixL (s1.1.seq hn) (at_of (j := r.toNat) (by omega) (List.getElem?_eq_getElem hl)) (q _ _ s1 st1 (List.getElem_mem hl))
abbrev s_law_bits : Stmt := topS 18
theorem sc_law_bits : FnScope ["_law_source", "_law_most", "_law_turn"] ["_law_source", "_law_most"] (defScope s_law_bits) := ⟨rfl, rfl, rfl, by decide +kernel, rfl, by decide +kernel, by decide +kernel⟩
def Ok_law_bits (P : Program) (w : World) (K : PySem.W.Frag) (mg : Str → Option Value) (base : Heap) : Prop := ∃ fA fd, Fn P w K mg base (L2.CX P w) 2 "_law_bits" s_law_bits fA fd ["_law_source", "_law_most"] (sp_law_bits K mg)
theorem okx_law_bits (Z : Zs K mg) {fA : Addr} {fd : FuncData} (F : Fun K "_law_bits" "_law_bits" s_law_bits fA fd) (m : mg "_law_bits" = some (.ref fA)) (C_law_take : Ok_law_take P w K mg base) : Fn P w K mg base (L2.CX P w) 2 "_law_bits" s_law_bits fA fd ["_law_source", "_law_most"] (sp_law_bits K mg) := by
  obtain ⟨_, _, C_law_take⟩ := C_law_take
  refine ⟨F.okX sc_law_bits (fun vs H Q E h => h.1) (fun cdv A outer s H vs Q E hr h => ?_), m, F.kp, F.binds fun _ _ _ _ _ _ us hl => match us, hl with | [_, _], _ => rfl, F⟩
  have hu64 := hr.units
  obtain ⟨hlen, h⟩ := h
  refine ⟨_, (pss_one (ps_ret (pe_lc (own := [("_law_turn", 2)]) (g := gName 2) (tt := tYes) (by rfl) sc_law_bits.nd (pi_range1 rfl Z.z_range (pa_cons (pe_call C_law_take.G (hr.mono (by decide)) rfl C_law_take.m C_law_take.kp C_law_take.b .nil passL (pa_cons (pv 0) (pa_cons (pe_op op_add (pv 1) pe_int) pa_nil))) pa_nil)) (blkOk_by (own := [("_law_turn", 2)]) (N := ["_law_source", "_law_most", "_law_turn"]) (sc := defScope s_law_bits) (by decide +kernel)) (fun _ _ _ _ _ => (pg_name (i := 2) sc_law_bits.nd rfl (Or.inl rfl))) (fun _ _ _ _ _ => pts_nil) (fun _ _ _ _ _ => (pe_call C_law_take.G (hr.mono (by decide)) rfl C_law_take.m C_law_take.kp C_law_take.b .nil passL (pa_cons (pv 0) (pa_cons pe_int pa_nil))))))), ?_⟩
  obtain ⟨F0, p, m', rfl, hs, m0, m1, q⟩ := h
  walk_at "r"
  refine ⟨rfl, F0, p, _, rfl, hs, by omega, by omega, fun r1 H1 s1 t1 r10 r11 => ?_⟩
  walk_at "r"
  refine ⟨_, rfl, by omega, by omega, ?_⟩
  refine lcW walk_range (S1 p) s1.1 (fun b e => e ▸ s1.dom) (fun _ _ _ => trivial) (fun i acc F H => Src F H p ∧ ∃ bs : List Int, acc = bs.map V.int ∧ bs.length = i ∧ Bits bs)
    (fun _ _ _ _ _ _ n f _ r => ⟨r.1.upd n f, r.2⟩) ⟨s1, [], rfl, rfl, fun _ h => absurd h (by simp)⟩ ?_ ?_
  · rintro j x acc d F3 H3 H4 hj ⟨rfl, rfl⟩ hd nS st f0 e hl ⟨rs, bs, rl, rn, rb⟩
    walk_at "r"
    refine ⟨rfl, F3, p, _, rfl, rs, by decide, by decide, fun r H5 s5 t5 r50 r51 => lc_end hd nS st f0 e hl (by omega) t5 ⟨s5.upd nS f0, bs ++ [r], ?_, by simp [rn], ?_⟩⟩
    · rw [rl]; simp
    · intro x hx
      rcases List.mem_append.mp hx with hx | hx
      · exact rb x hx
      · simp at hx; unfold isBit; omega
  intro d acc F3 F4 H3 st hd f0 ef st1 hl ⟨rs, bs, rl, rn, rb⟩
  subst ef
  exact q d bs _ H3 (rs.frz (s1.ne hd) st1.fh) (t1.trans st1) (by rw [upd_same, rl]) rb (by omega)
abbrev s_law_list : Stmt := topS 19
theorem sc_law_list : FnScope ["_law_source", "_law_near", "_law_many", "_law_last"] ["_law_source"] (defScope s_law_list) := ⟨rfl, rfl, rfl, by decide +kernel, rfl, by decide +kernel, by decide +kernel⟩
def Ok_law_list (P : Program) (w : World) (K : PySem.W.Frag) (mg : Str → Option Value) (base : Heap) : Prop := ∃ fA fd, Fn P w K mg base (L2.CX P w) 3 "_law_list" s_law_list fA fd ["_law_source"] (sp_law_list K mg)
theorem okx_law_list (Z : Zs K mg) {fA : Addr} {fd : FuncData} (F : Fun K "_law_list" "_law_list" s_law_list fA fd) (m : mg "_law_list" = some (.ref fA)) (C_law_bits : Ok_law_bits P w K mg base) (C_law_one : Ok_law_one P w K mg base) (C_law_take : Ok_law_take P w K mg base) : Fn P w K mg base (L2.CX P w) 3 "_law_list" s_law_list fA fd ["_law_source"] (sp_law_list K mg) := by
  obtain ⟨_, _, C_law_bits⟩ := C_law_bits
  obtain ⟨_, _, C_law_one⟩ := C_law_one
  obtain ⟨_, _, C_law_take⟩ := C_law_take
  refine ⟨F.okX sc_law_list (fun vs H Q E h => h.1) (fun cdv A outer s H vs Q E hr h => ?_), m, F.kp, F.binds fun _ _ _ _ _ _ us hl => match us, hl with | [_], _ => rfl, F⟩
  have hu64 := hr.units
  obtain ⟨hlen, h⟩ := h
  refine ⟨_, (pss_cons (ps_set (i := 1) sc_law_list.nd rfl (Or.inl rfl) (pe_lst (pa_cons (pe_op op_add pe_int (pe_call C_law_take.G (hr.mono (by decide)) rfl C_law_take.m C_law_take.kp C_law_take.b .nil passL (pa_cons (pv 0) (pa_cons pe_int pa_nil)))) (pa_cons (pe_op op_add pe_int (pe_call C_law_take.G (hr.mono (by decide)) rfl C_law_take.m C_law_take.kp C_law_take.b .nil passL (pa_cons (pv 0) (pa_cons pe_int pa_nil)))) pa_nil))))
    (pss_cons (ps_set (i := 2) sc_law_list.nd rfl (Or.inl rfl) (pe_call C_law_one.G (hr.mono (by decide)) rfl C_law_one.m C_law_one.kp C_law_one.b .nil passL (pa_cons (pv 0) (pa_cons (pe_op op_cat (pv 1) (pe_lst (pa_cons (pe_call C_law_take.G (hr.mono (by decide)) rfl C_law_take.m C_law_take.kp C_law_take.b .nil passL (pa_cons (pv 0) (pa_cons pe_int pa_nil))) (pa_cons (pe_call C_law_take.G (hr.mono (by decide)) rfl C_law_take.m C_law_take.kp C_law_take.b .nil passL (pa_cons (pv 0) (pa_cons pe_int pa_nil))) pa_nil)))) pa_nil))))
    (pss_cons (ps_set (i := 3) sc_law_list.nd rfl (Or.inl rfl) (pe_call C_law_one.G (hr.mono (by decide)) rfl C_law_one.m C_law_one.kp C_law_one.b .nil passL (pa_cons (pv 0) (pa_cons (pe_lst (pa_cons (pe_lst pa_nil) (pa_cons (pe_lst (pa_cons pe_int pa_nil)) (pa_cons (pe_op op_cat (pe_lst (pa_cons pe_int pa_nil)) (pe_op op_rep (pe_lst (pa_cons pe_int pa_nil)) (pe_call C_law_take.G (hr.mono (by decide)) rfl C_law_take.m C_law_take.kp C_law_take.b .nil passL (pa_cons (pv 0) (pa_cons pe_int pa_nil))))) (pa_cons (pe_op op_cat (pe_op op_cat (pe_lst (pa_cons pe_int pa_nil)) (pe_op op_rep (pe_lst (pa_cons pe_int pa_nil)) pe_int)) (pe_lst (pa_cons pe_int pa_nil))) (pa_cons (pe_call C_law_bits.G (hr.mono (by decide)) rfl C_law_bits.m C_law_bits.kp C_law_bits.b .nil passL (pa_cons (pv 0) (pa_cons pe_int pa_nil))) pa_nil)))))) pa_nil))))
    (pss_one (ps_ret (pe_op op_cat (pe_op op_cat (pe_call C_law_bits.G (hr.mono (by decide)) rfl C_law_bits.m C_law_bits.kp C_law_bits.b .nil passL (pa_cons (pv 0) (pa_cons pe_int pa_nil))) (pe_op op_rep (pe_lst (pa_cons pe_int pa_nil)) (pv 2))) (pv 3))))))), ?_⟩
  obtain ⟨F0, p, rfl, hs, q⟩ := h
  walk_at "r"
  refine ⟨rfl, F0, p, _, rfl, hs, by decide, by decide, fun x1 H_1 s_1 u_1 x10 x11 => ?_⟩
  have t_1 := u_1
  walk_at "r"
  refine ⟨rfl, F0, p, _, rfl, s_1, by decide, by decide, fun x2 H_2 s_2 u_2 x20 x21 => ?_⟩
  have t_2 := t_1.trans u_2
  walk_at "r"
  refine ⟨sz (by simp), fun a ha => ?_⟩
  have s_3 := s_2.new (o := .lst [.int (39 + x1), .int (40 + x2)]) ha
  have g_3 := Stp.new (S := S1 p) (o := .lst [.int (39 + x1), .int (40 + x2)]) s_2.1 ha
  have t_3 := t_2.trans g_3
  have f_3 := g_3.ff
  have e_a : upd F0 a (.lst [.int (39 + x1), .int (40 + x2)]) a = some (.lst [.int (39 + x1), .int (40 + x2)]) := upd_same
  clear g_3
  generalize upd F0 a (.lst [.int (39 + x1), .int (40 + x2)]) = F_3 at s_3 t_3 f_3 e_a
  generalize upd H_2 a (.lst [.int (39 + x1), .int (40 + x2)]) = H_3 at s_3 t_3 ⊢
  walk_at "r"
  refine ⟨rfl, F_3, p, _, rfl, s_3, by decide, by decide, fun x3 H_4 s_4 u_4 x30 x31 => ?_⟩
  have t_4 := t_3.trans u_4
  walk_at "r"
  refine ⟨rfl, F_3, p, _, rfl, s_4, by decide, by decide, fun x4 H_5 s_5 u_5 x40 x41 => ?_⟩
  have t_5 := t_4.trans u_5
  walk_at "r"
  refine ⟨sz (by simp), fun b hb => ?_⟩
  have s_6 := s_5.new (o := .lst [.int x3, .int x4]) hb
  have g_6 := Stp.new (S := S1 p) (o := .lst [.int x3, .int x4]) s_5.1 hb
  have t_6 := t_5.trans g_6
  have f_6 := g_6.ff
  have e_b : upd F_3 b (.lst [.int x3, .int x4]) b = some (.lst [.int x3, .int x4]) := upd_same
  clear g_6
  generalize upd F_3 b (.lst [.int x3, .int x4]) = F_6 at s_6 t_6 f_6 e_b
  generalize upd H_5 b (.lst [.int x3, .int x4]) = H_6 at s_6 t_6 ⊢
  replace e_a := f_6 _ _ e_a
  walk_at "r"
  refine ⟨_, _, _, _, rfl, rfl, s_6.1 _ _ e_a, s_6.1 _ _ e_b, sz (by simp), fun c hc => ?_⟩
  have s_7 := s_6.new (o := .lst ([.int (39 + x1), .int (40 + x2)] ++ [.int x3, .int x4])) hc
  have g_7 := Stp.new (S := S1 p) (o := .lst ([.int (39 + x1), .int (40 + x2)] ++ [.int x3, .int x4])) s_6.1 hc
  have t_7 := t_6.trans g_7
  have f_7 := g_7.ff
  have e_c : upd F_6 c (.lst ([.int (39 + x1), .int (40 + x2)] ++ [.int x3, .int x4])) c = some (.lst ([.int (39 + x1), .int (40 + x2)] ++ [.int x3, .int x4])) := upd_same
  clear g_7
  generalize upd F_6 c (.lst ([.int (39 + x1), .int (40 + x2)] ++ [.int x3, .int x4])) = F_7 at s_7 t_7 f_7 e_c
  generalize upd H_6 c (.lst ([.int (39 + x1), .int (40 + x2)] ++ [.int x3, .int x4])) = H_7 at s_7 t_7 ⊢
  replace e_a := f_7 _ _ e_a
  replace e_b := f_7 _ _ e_b
  walk_at "r"
  refine ⟨rfl, F_7, p, c, _, rfl, s_7, SqL.of e_c, by simp, by simp, fun v H_8 s_8 u_8 hv => ?_⟩
  have t_8 := t_7.trans u_8
  obtain ⟨k, rfl, k0, k1⟩ : ∃ k : Int, v = .int k ∧ 0 ≤ k ∧ k ≤ 91 := by
    simp at hv
    rcases hv with rfl | rfl | rfl | rfl
    · exact ⟨_, rfl, by omega, by omega⟩
    · exact ⟨_, rfl, by omega, by omega⟩
    · exact ⟨_, rfl, by omega, by omega⟩
    · exact ⟨_, rfl, by omega, by omega⟩
  walk_at "r"
  refine ⟨sz (by simp), fun l1 hl1 => ?_⟩
  have s_9 := s_8.new (o := .lst []) hl1
  have g_9 := Stp.new (S := S1 p) (o := .lst []) s_8.1 hl1
  have t_9 := t_8.trans g_9
  have f_9 := g_9.ff
  have e_l1 : upd F_7 l1 (.lst []) l1 = some (.lst []) := upd_same
  clear g_9
  generalize upd F_7 l1 (.lst []) = F_9 at s_9 t_9 f_9 e_l1
  generalize upd H_8 l1 (.lst []) = H_9 at s_9 t_9 ⊢
  replace e_a := f_9 _ _ e_a
  replace e_b := f_9 _ _ e_b
  replace e_c := f_9 _ _ e_c
  walk_at "r"
  refine ⟨sz (by simp), fun l2 hl2 => ?_⟩
  have s_10 := s_9.new (o := .lst [.int 1]) hl2
  have g_10 := Stp.new (S := S1 p) (o := .lst [.int 1]) s_9.1 hl2
  have t_10 := t_9.trans g_10
  have f_10 := g_10.ff
  have e_l2 : upd F_9 l2 (.lst [.int 1]) l2 = some (.lst [.int 1]) := upd_same
  clear g_10
  generalize upd F_9 l2 (.lst [.int 1]) = F_10 at s_10 t_10 f_10 e_l2
  generalize upd H_9 l2 (.lst [.int 1]) = H_10 at s_10 t_10 ⊢
  replace e_a := f_10 _ _ e_a
  replace e_b := f_10 _ _ e_b
  replace e_c := f_10 _ _ e_c
  replace e_l1 := f_10 _ _ e_l1
  walk_at "r"
  refine ⟨sz (by simp), fun m1 hm1 => ?_⟩
  have s_11 := s_10.new (o := .lst [.int 1]) hm1
  have g_11 := Stp.new (S := S1 p) (o := .lst [.int 1]) s_10.1 hm1
  have t_11 := t_10.trans g_11
  have f_11 := g_11.ff
  have e_m1 : upd F_10 m1 (.lst [.int 1]) m1 = some (.lst [.int 1]) := upd_same
  clear g_11
  generalize upd F_10 m1 (.lst [.int 1]) = F_11 at s_11 t_11 f_11 e_m1
  generalize upd H_10 m1 (.lst [.int 1]) = H_11 at s_11 t_11 ⊢
  replace e_a := f_11 _ _ e_a
  replace e_b := f_11 _ _ e_b
  replace e_c := f_11 _ _ e_c
  replace e_l1 := f_11 _ _ e_l1
  replace e_l2 := f_11 _ _ e_l2
  walk_at "r"
  refine ⟨sz (by simp), fun m2 hm2 => ?_⟩
  have s_12 := s_11.new (o := .lst [.int 0]) hm2
  have g_12 := Stp.new (S := S1 p) (o := .lst [.int 0]) s_11.1 hm2
  have t_12 := t_11.trans g_12
  have f_12 := g_12.ff
  have e_m2 : upd F_11 m2 (.lst [.int 0]) m2 = some (.lst [.int 0]) := upd_same
  clear g_12
  generalize upd F_11 m2 (.lst [.int 0]) = F_12 at s_12 t_12 f_12 e_m2
  generalize upd H_11 m2 (.lst [.int 0]) = H_12 at s_12 t_12 ⊢
  replace e_a := f_12 _ _ e_a
  replace e_b := f_12 _ _ e_b
  replace e_c := f_12 _ _ e_c
  replace e_l1 := f_12 _ _ e_l1
  replace e_l2 := f_12 _ _ e_l2
  replace e_m1 := f_12 _ _ e_m1
  walk_at "r"
  refine ⟨rfl, F_12, p, _, rfl, s_12, by decide, by decide, fun x5 H_13 s_13 u_13 x50 x51 => ?_⟩
  have t_13 := t_12.trans u_13
  walk_at "r"
  refine s_rep (s_13.1 _ _ e_m2) (by omega) (by omega) fun m3 hm3 => ?_
  have s_14 := s_13.new (o := .lst (List.replicate x5.toNat (V.int 0))) hm3
  have g_14 := Stp.new (S := S1 p) (o := .lst (List.replicate x5.toNat (V.int 0))) s_13.1 hm3
  have t_14 := t_13.trans g_14
  have f_14 := g_14.ff
  have e_m3 : upd F_12 m3 (.lst (List.replicate x5.toNat (V.int 0))) m3 = some (.lst (List.replicate x5.toNat (V.int 0))) := upd_same
  clear g_14
  generalize upd F_12 m3 (.lst (List.replicate x5.toNat (V.int 0))) = F_14 at s_14 t_14 f_14 e_m3
  generalize upd H_13 m3 (.lst (List.replicate x5.toNat (V.int 0))) = H_14 at s_14 t_14 ⊢
  replace e_a := f_14 _ _ e_a
  replace e_b := f_14 _ _ e_b
  replace e_c := f_14 _ _ e_c
  replace e_l1 := f_14 _ _ e_l1
  replace e_l2 := f_14 _ _ e_l2
  replace e_m1 := f_14 _ _ e_m1
  replace e_m2 := f_14 _ _ e_m2
  walk_at "r"
  refine ⟨_, _, _, _, rfl, rfl, s_14.1 _ _ e_m1, s_14.1 _ _ e_m3, sz (by simp; omega), fun l3 hl3 => ?_⟩
  have s_15 := s_14.new (o := .lst ([.int 1] ++ List.replicate x5.toNat (V.int 0))) hl3
  have g_15 := Stp.new (S := S1 p) (o := .lst ([.int 1] ++ List.replicate x5.toNat (V.int 0))) s_14.1 hl3
  have t_15 := t_14.trans g_15
  have f_15 := g_15.ff
  have e_l3 : upd F_14 l3 (.lst ([.int 1] ++ List.replicate x5.toNat (V.int 0))) l3 = some (.lst ([.int 1] ++ List.replicate x5.toNat (V.int 0))) := upd_same
  clear g_15
  generalize upd F_14 l3 (.lst ([.int 1] ++ List.replicate x5.toNat (V.int 0))) = F_15 at s_15 t_15 f_15 e_l3
  generalize upd H_14 l3 (.lst ([.int 1] ++ List.replicate x5.toNat (V.int 0))) = H_15 at s_15 t_15 ⊢
  replace e_a := f_15 _ _ e_a
  replace e_b := f_15 _ _ e_b
  replace e_c := f_15 _ _ e_c
  replace e_l1 := f_15 _ _ e_l1
  replace e_l2 := f_15 _ _ e_l2
  replace e_m1 := f_15 _ _ e_m1
  replace e_m2 := f_15 _ _ e_m2
  replace e_m3 := f_15 _ _ e_m3
  walk_at "r"
  refine ⟨sz (by simp), fun m4 hm4 => ?_⟩
  have s_16 := s_15.new (o := .lst [.int 1]) hm4
  have g_16 := Stp.new (S := S1 p) (o := .lst [.int 1]) s_15.1 hm4
  have t_16 := t_15.trans g_16
  have f_16 := g_16.ff
  have e_m4 : upd F_15 m4 (.lst [.int 1]) m4 = some (.lst [.int 1]) := upd_same
  clear g_16
  generalize upd F_15 m4 (.lst [.int 1]) = F_16 at s_16 t_16 f_16 e_m4
  generalize upd H_15 m4 (.lst [.int 1]) = H_16 at s_16 t_16 ⊢
  replace e_a := f_16 _ _ e_a
  replace e_b := f_16 _ _ e_b
  replace e_c := f_16 _ _ e_c
  replace e_l1 := f_16 _ _ e_l1
  replace e_l2 := f_16 _ _ e_l2
  replace e_m1 := f_16 _ _ e_m1
  replace e_m2 := f_16 _ _ e_m2
  replace e_m3 := f_16 _ _ e_m3
  replace e_l3 := f_16 _ _ e_l3
  walk_at "r"
  refine ⟨sz (by simp), fun m5 hm5 => ?_⟩
  have s_17 := s_16.new (o := .lst [.int 0]) hm5
  have g_17 := Stp.new (S := S1 p) (o := .lst [.int 0]) s_16.1 hm5
  have t_17 := t_16.trans g_17
  have f_17 := g_17.ff
  have e_m5 : upd F_16 m5 (.lst [.int 0]) m5 = some (.lst [.int 0]) := upd_same
  clear g_17
  generalize upd F_16 m5 (.lst [.int 0]) = F_17 at s_17 t_17 f_17 e_m5
  generalize upd H_16 m5 (.lst [.int 0]) = H_17 at s_17 t_17 ⊢
  replace e_a := f_17 _ _ e_a
  replace e_b := f_17 _ _ e_b
  replace e_c := f_17 _ _ e_c
  replace e_l1 := f_17 _ _ e_l1
  replace e_l2 := f_17 _ _ e_l2
  replace e_m1 := f_17 _ _ e_m1
  replace e_m2 := f_17 _ _ e_m2
  replace e_m3 := f_17 _ _ e_m3
  replace e_l3 := f_17 _ _ e_l3
  replace e_m4 := f_17 _ _ e_m4
  walk_at "r"
  refine s_rep (s_17.1 _ _ e_m5) (by decide) (by decide) fun m6 hm6 => ?_
  have s_18 := s_17.new (o := .lst (List.replicate (39 : Int).toNat (V.int 0))) hm6
  have g_18 := Stp.new (S := S1 p) (o := .lst (List.replicate (39 : Int).toNat (V.int 0))) s_17.1 hm6
  have t_18 := t_17.trans g_18
  have f_18 := g_18.ff
  have e_m6 : upd F_17 m6 (.lst (List.replicate (39 : Int).toNat (V.int 0))) m6 = some (.lst (List.replicate (39 : Int).toNat (V.int 0))) := upd_same
  clear g_18
  generalize upd F_17 m6 (.lst (List.replicate (39 : Int).toNat (V.int 0))) = F_18 at s_18 t_18 f_18 e_m6
  generalize upd H_17 m6 (.lst (List.replicate (39 : Int).toNat (V.int 0))) = H_18 at s_18 t_18 ⊢
  replace e_a := f_18 _ _ e_a
  replace e_b := f_18 _ _ e_b
  replace e_c := f_18 _ _ e_c
  replace e_l1 := f_18 _ _ e_l1
  replace e_l2 := f_18 _ _ e_l2
  replace e_m1 := f_18 _ _ e_m1
  replace e_m2 := f_18 _ _ e_m2
  replace e_m3 := f_18 _ _ e_m3
  replace e_l3 := f_18 _ _ e_l3
  replace e_m4 := f_18 _ _ e_m4
  replace e_m5 := f_18 _ _ e_m5
  walk_at "r"
  refine ⟨_, _, _, _, rfl, rfl, s_18.1 _ _ e_m4, s_18.1 _ _ e_m6, sz (by simp), fun m7 hm7 => ?_⟩
  have s_19 := s_18.new (o := .lst ([.int 1] ++ List.replicate (39 : Int).toNat (V.int 0))) hm7
  have g_19 := Stp.new (S := S1 p) (o := .lst ([.int 1] ++ List.replicate (39 : Int).toNat (V.int 0))) s_18.1 hm7
  have t_19 := t_18.trans g_19
  have f_19 := g_19.ff
  have e_m7 : upd F_18 m7 (.lst ([.int 1] ++ List.replicate (39 : Int).toNat (V.int 0))) m7 = some (.lst ([.int 1] ++ List.replicate (39 : Int).toNat (V.int 0))) := upd_same
  clear g_19
  generalize upd F_18 m7 (.lst ([.int 1] ++ List.replicate (39 : Int).toNat (V.int 0))) = F_19 at s_19 t_19 f_19 e_m7
  generalize upd H_18 m7 (.lst ([.int 1] ++ List.replicate (39 : Int).toNat (V.int 0))) = H_19 at s_19 t_19 ⊢
  replace e_a := f_19 _ _ e_a
  replace e_b := f_19 _ _ e_b
  replace e_c := f_19 _ _ e_c
  replace e_l1 := f_19 _ _ e_l1
  replace e_l2 := f_19 _ _ e_l2
  replace e_m1 := f_19 _ _ e_m1
  replace e_m2 := f_19 _ _ e_m2
  replace e_m3 := f_19 _ _ e_m3
  replace e_l3 := f_19 _ _ e_l3
  replace e_m4 := f_19 _ _ e_m4
  replace e_m5 := f_19 _ _ e_m5
  replace e_m6 := f_19 _ _ e_m6
  walk_at "r"
  refine ⟨sz (by simp), fun m8 hm8 => ?_⟩
  have s_20 := s_19.new (o := .lst [.int 1]) hm8
  have g_20 := Stp.new (S := S1 p) (o := .lst [.int 1]) s_19.1 hm8
  have t_20 := t_19.trans g_20
  have f_20 := g_20.ff
  have e_m8 : upd F_19 m8 (.lst [.int 1]) m8 = some (.lst [.int 1]) := upd_same
  clear g_20
  generalize upd F_19 m8 (.lst [.int 1]) = F_20 at s_20 t_20 f_20 e_m8
  generalize upd H_19 m8 (.lst [.int 1]) = H_20 at s_20 t_20 ⊢
  replace e_a := f_20 _ _ e_a
  replace e_b := f_20 _ _ e_b
  replace e_c := f_20 _ _ e_c
  replace e_l1 := f_20 _ _ e_l1
  replace e_l2 := f_20 _ _ e_l2
  replace e_m1 := f_20 _ _ e_m1
  replace e_m2 := f_20 _ _ e_m2
  replace e_m3 := f_20 _ _ e_m3
  replace e_l3 := f_20 _ _ e_l3
  replace e_m4 := f_20 _ _ e_m4
  replace e_m5 := f_20 _ _ e_m5
  replace e_m6 := f_20 _ _ e_m6
  replace e_m7 := f_20 _ _ e_m7
  walk_at "r"
  refine ⟨_, _, _, _, rfl, rfl, s_20.1 _ _ e_m7, s_20.1 _ _ e_m8, sz (by simp), fun l4 hl4 => ?_⟩
  have s_21 := s_20.new (o := .lst ([.int 1] ++ List.replicate (39 : Int).toNat (V.int 0) ++ [.int 1])) hl4
  have g_21 := Stp.new (S := S1 p) (o := .lst ([.int 1] ++ List.replicate (39 : Int).toNat (V.int 0) ++ [.int 1])) s_20.1 hl4
  have t_21 := t_20.trans g_21
  have f_21 := g_21.ff
  have e_l4 : upd F_20 l4 (.lst ([.int 1] ++ List.replicate (39 : Int).toNat (V.int 0) ++ [.int 1])) l4 = some (.lst ([.int 1] ++ List.replicate (39 : Int).toNat (V.int 0) ++ [.int 1])) := upd_same
  clear g_21
  generalize upd F_20 l4 (.lst ([.int 1] ++ List.replicate (39 : Int).toNat (V.int 0) ++ [.int 1])) = F_21 at s_21 t_21 f_21 e_l4
  generalize upd H_20 l4 (.lst ([.int 1] ++ List.replicate (39 : Int).toNat (V.int 0) ++ [.int 1])) = H_21 at s_21 t_21 ⊢
  replace e_a := f_21 _ _ e_a
  replace e_b := f_21 _ _ e_b
  replace e_c := f_21 _ _ e_c
  replace e_l1 := f_21 _ _ e_l1
  replace e_l2 := f_21 _ _ e_l2
  replace e_m1 := f_21 _ _ e_m1
  replace e_m2 := f_21 _ _ e_m2
  replace e_m3 := f_21 _ _ e_m3
  replace e_l3 := f_21 _ _ e_l3
  replace e_m4 := f_21 _ _ e_m4
  replace e_m5 := f_21 _ _ e_m5
  replace e_m6 := f_21 _ _ e_m6
  replace e_m7 := f_21 _ _ e_m7
  replace e_m8 := f_21 _ _ e_m8
  walk_at "r"
  refine ⟨rfl, F_21, p, _, rfl, s_21, by decide, by decide, fun l5 B F_22 H_22 s_22 u_22 e_l5 Bb Bl => ?_⟩
  have f_22 := u_22.ff
  have t_22 := t_21.trans u_22
  replace e_a := f_22 _ _ e_a
  replace e_b := f_22 _ _ e_b
  replace e_c := f_22 _ _ e_c
  replace e_l1 := f_22 _ _ e_l1
  replace e_l2 := f_22 _ _ e_l2
  replace e_m1 := f_22 _ _ e_m1
  replace e_m2 := f_22 _ _ e_m2
  replace e_m3 := f_22 _ _ e_m3
  replace e_l3 := f_22 _ _ e_l3
  replace e_m4 := f_22 _ _ e_m4
  replace e_m5 := f_22 _ _ e_m5
  replace e_m6 := f_22 _ _ e_m6
  replace e_m7 := f_22 _ _ e_m7
  replace e_m8 := f_22 _ _ e_m8
  replace e_l4 := f_22 _ _ e_l4
  walk_at "r"
  refine ⟨sz (by simp), fun l6 hl6 => ?_⟩
  have s_23 := s_22.new (o := .lst [.ref l1, .ref l2, .ref l3, .ref l4, .ref l5]) hl6
  have g_23 := Stp.new (S := S1 p) (o := .lst [.ref l1, .ref l2, .ref l3, .ref l4, .ref l5]) s_22.1 hl6
  have t_23 := t_22.trans g_23
  have f_23 := g_23.ff
  have e_l6 : upd F_22 l6 (.lst [.ref l1, .ref l2, .ref l3, .ref l4, .ref l5]) l6 = some (.lst [.ref l1, .ref l2, .ref l3, .ref l4, .ref l5]) := upd_same
  clear g_23
  generalize upd F_22 l6 (.lst [.ref l1, .ref l2, .ref l3, .ref l4, .ref l5]) = F_23 at s_23 t_23 f_23 e_l6
  generalize upd H_22 l6 (.lst [.ref l1, .ref l2, .ref l3, .ref l4, .ref l5]) = H_23 at s_23 t_23 ⊢
  replace e_a := f_23 _ _ e_a
  replace e_b := f_23 _ _ e_b
  replace e_c := f_23 _ _ e_c
  replace e_l1 := f_23 _ _ e_l1
  replace e_l2 := f_23 _ _ e_l2
  replace e_m1 := f_23 _ _ e_m1
  replace e_m2 := f_23 _ _ e_m2
  replace e_m3 := f_23 _ _ e_m3
  replace e_l3 := f_23 _ _ e_l3
  replace e_m4 := f_23 _ _ e_m4
  replace e_m5 := f_23 _ _ e_m5
  replace e_m6 := f_23 _ _ e_m6
  replace e_m7 := f_23 _ _ e_m7
  replace e_m8 := f_23 _ _ e_m8
  replace e_l4 := f_23 _ _ e_l4
  replace e_l5 := f_23 _ _ e_l5
  walk_at "r"
  refine ⟨rfl, F_23, p, l6, _, rfl, s_23, SqL.of e_l6, by simp, by simp, fun v H_24 s_24 u_24 hv => ?_⟩
  have t_24 := t_23.trans u_24
  obtain ⟨la, L, rfl, hL, bL, nL⟩ : ∃ (la : Addr) (L : List Int), v = .ref la ∧ F_23 la = some (.lst (L.map V.int)) ∧ Bits L ∧ L.length ≤ 60 := by
    have z0 : ∀ n : Nat, (List.replicate n (V.int 0)) = (List.replicate n (0 : Int)).map V.int := fun n => by simp
    have b0 : ∀ n : Nat, Bits (List.replicate n 0) := fun n x hx => .inl (List.eq_of_mem_replicate hx)
    have b1 : Bits [1] := fun x hx => .inr (by simpa using hx)
    simp only [List.mem_cons, List.not_mem_nil, or_false] at hv
    rcases hv with rfl | rfl | rfl | rfl | rfl
    · exact ⟨_, [], rfl, e_l1, fun x hx => absurd hx (by simp), by simp⟩
    · exact ⟨_, [1], rfl, e_l2, b1, by simp⟩
    · exact ⟨_, [1] ++ List.replicate x5.toNat 0, rfl, by rw [e_l3, z0]; rfl, b1.app (b0 _), by simp; omega⟩
    · exact ⟨_, [1] ++ List.replicate (39 : Int).toNat 0 ++ [1], rfl, by rw [e_l4]; rfl, (b1.app (b0 _)).app b1, by simp⟩
    · exact ⟨_, B, rfl, e_l5, Bb, by omega⟩
  clear e_a
  clear e_b
  clear e_c
  clear e_l1
  clear e_l2
  clear e_m1
  clear e_m2
  clear e_m3
  clear e_l3
  clear e_m4
  clear e_m5
  clear e_m6
  clear e_m7
  clear e_m8
  clear e_l4
  clear e_l5
  clear e_l6
  have e_la := hL
  walk_at "r"
  refine ⟨rfl, F_23, p, _, rfl, s_24, by decide, by decide, fun qa A F_25 H_25 s_25 u_25 e_qa Ab Al => ?_⟩
  have f_25 := u_25.ff
  have t_25 := t_24.trans u_25
  replace e_la := f_25 _ _ e_la
  walk_at "r"
  refine ⟨sz (by simp), fun n1 hn1 => ?_⟩
  have s_26 := s_25.new (o := .lst [.int 0]) hn1
  have g_26 := Stp.new (S := S1 p) (o := .lst [.int 0]) s_25.1 hn1
  have t_26 := t_25.trans g_26
  have f_26 := g_26.ff
  have e_n1 : upd F_25 n1 (.lst [.int 0]) n1 = some (.lst [.int 0]) := upd_same
  clear g_26
  generalize upd F_25 n1 (.lst [.int 0]) = F_26 at s_26 t_26 f_26 e_n1
  generalize upd H_25 n1 (.lst [.int 0]) = H_26 at s_26 t_26 ⊢
  replace e_la := f_26 _ _ e_la
  replace e_qa := f_26 _ _ e_qa
  walk_at "r"
  refine s_rep (s_26.1 _ _ e_n1) (by omega) (by omega) fun n2 hn2 => ?_
  have s_27 := s_26.new (o := .lst (List.replicate k.toNat (V.int 0))) hn2
  have g_27 := Stp.new (S := S1 p) (o := .lst (List.replicate k.toNat (V.int 0))) s_26.1 hn2
  have t_27 := t_26.trans g_27
  have f_27 := g_27.ff
  have e_n2 : upd F_26 n2 (.lst (List.replicate k.toNat (V.int 0))) n2 = some (.lst (List.replicate k.toNat (V.int 0))) := upd_same
  clear g_27
  generalize upd F_26 n2 (.lst (List.replicate k.toNat (V.int 0))) = F_27 at s_27 t_27 f_27 e_n2
  generalize upd H_26 n2 (.lst (List.replicate k.toNat (V.int 0))) = H_27 at s_27 t_27 ⊢
  replace e_la := f_27 _ _ e_la
  replace e_qa := f_27 _ _ e_qa
  replace e_n1 := f_27 _ _ e_n1
  walk_at "r"
  refine ⟨_, _, _, _, rfl, rfl, s_27.1 _ _ e_qa, s_27.1 _ _ e_n2, sz (by simp; omega), fun n3 hn3 => ?_⟩
  have s_28 := s_27.new (o := .lst (A.map V.int ++ List.replicate k.toNat (V.int 0))) hn3
  have g_28 := Stp.new (S := S1 p) (o := .lst (A.map V.int ++ List.replicate k.toNat (V.int 0))) s_27.1 hn3
  have t_28 := t_27.trans g_28
  have f_28 := g_28.ff
  have e_n3 : upd F_27 n3 (.lst (A.map V.int ++ List.replicate k.toNat (V.int 0))) n3 = some (.lst (A.map V.int ++ List.replicate k.toNat (V.int 0))) := upd_same
  clear g_28
  generalize upd F_27 n3 (.lst (A.map V.int ++ List.replicate k.toNat (V.int 0))) = F_28 at s_28 t_28 f_28 e_n3
  generalize upd H_27 n3 (.lst (A.map V.int ++ List.replicate k.toNat (V.int 0))) = H_28 at s_28 t_28 ⊢
  replace e_la := f_28 _ _ e_la
  replace e_qa := f_28 _ _ e_qa
  replace e_n1 := f_28 _ _ e_n1
  replace e_n2 := f_28 _ _ e_n2
  walk_at "r"
  refine ⟨_, _, _, _, rfl, rfl, s_28.1 _ _ e_n3, s_28.1 _ _ e_la, sz (by simp; omega), fun n4 hn4 => ?_⟩
  have s_29 := s_28.new (o := .lst (A.map V.int ++ List.replicate k.toNat (V.int 0) ++ L.map V.int)) hn4
  have g_29 := Stp.new (S := S1 p) (o := .lst (A.map V.int ++ List.replicate k.toNat (V.int 0) ++ L.map V.int)) s_28.1 hn4
  have t_29 := t_28.trans g_29
  have f_29 := g_29.ff
  have e_n4 : upd F_28 n4 (.lst (A.map V.int ++ List.replicate k.toNat (V.int 0) ++ L.map V.int)) n4 = some (.lst (A.map V.int ++ List.replicate k.toNat (V.int 0) ++ L.map V.int)) := upd_same
  clear g_29
  generalize upd F_28 n4 (.lst (A.map V.int ++ List.replicate k.toNat (V.int 0) ++ L.map V.int)) = F_29 at s_29 t_29 f_29 e_n4
  generalize upd H_28 n4 (.lst (A.map V.int ++ List.replicate k.toNat (V.int 0) ++ L.map V.int)) = H_29 at s_29 t_29 ⊢
  replace e_la := f_29 _ _ e_la
  replace e_qa := f_29 _ _ e_qa
  replace e_n1 := f_29 _ _ e_n1
  replace e_n2 := f_29 _ _ e_n2
  replace e_n3 := f_29 _ _ e_n3
  refine q n4 (A ++ List.replicate k.toNat 0 ++ L) _ _ s_29 t_29 (by rw [e_n4]; simp) ((Ab.app fun x hx => .inl (List.eq_of_mem_replicate hx)).app bL) (by simp; omega)
abbrev s_law_read : Stmt := topS 20
theorem sc_law_read : FnScope ["_law_bits_here", "_law_at", "_law_zeros", "_law_digits", "_law_number", "_law_one_here"] ["_law_bits_here", "_law_at"] (defScope s_law_read) := ⟨rfl, rfl, rfl, by decide +kernel, rfl, by decide +kernel, by decide +kernel⟩
def Ok_law_read (P : Program) (w : World) (K : PySem.W.Frag) (mg : Str → Option Value) (base : Heap) : Prop := ∃ fA fd, Fn P w K mg base (L2.CX P w) 1 "_law_read" s_law_read fA fd ["_law_bits_here", "_law_at"] (sp_law_read K mg)
theorem okx_law_read (Z : Zs K mg) {fA : Addr} {fd : FuncData} (F : Fun K "_law_read" "_law_read" s_law_read fA fd) (m : mg "_law_read" = some (.ref fA))  : Fn P w K mg base (L2.CX P w) 1 "_law_read" s_law_read fA fd ["_law_bits_here", "_law_at"] (sp_law_read K mg) := by
  refine ⟨F.okX sc_law_read (fun vs H Q E h => h.1) (fun cdv A outer s H vs Q E hr h => ?_), m, F.kp, F.binds fun _ _ _ _ _ _ us hl => match us, hl with | [_, _], _ => rfl, F⟩
  have hu64 := hr.units
  obtain ⟨hlen, h⟩ := h
  refine ⟨_, (pss_cons (ps_set (i := 2) sc_law_read.nd rfl (Or.inl rfl) pe_int)
    (pss_cons (ps_while (passes_of rfl) (PW.pt (pw_and (pt_cmpR op_lt (pe_op op_add (pv 1) (pv 2)) (pe_callB (c_len K rfl) (by rfl) Z.z_len (by decide +kernel) (pa_cons (pv 0) pa_nil)) (nomark _)) (pw_and1 (pt_cmpR op_eq (pe_ix (i_list K rfl) (pv 0) (pe_op op_add (pv 1) (pv 2)) (fun _ _ => rfl)) pe_int (nomark _)))))
      (pss_one (ps_set (i := 2) sc_law_read.nd rfl (Or.inl rfl) (pe_op op_add (pv 2) pe_int))))
    (pss_cons (ps_if (pt_cmpR op_gt (pv 2) pe_int (nomark _))
      (pss_one (ps_ret (pe_tup (pa_cons pe_str pa_nil))))
      pss_nil)
    (pss_cons (ps_set (i := 3) sc_law_read.nd rfl (Or.inl rfl) (pe_slice (l_list K rfl) (pv 0) (po_some (pe_op op_add (pv 1) (pv 2))) (po_some (pe_op op_add (pe_op op_add (pv 1) (pe_op op_mul pe_int (pv 2))) pe_int))))
    (pss_cons (ps_if (pt_cmpR op_lt (pe_callB (c_len K rfl) (by rfl) Z.z_len (by decide +kernel) (pa_cons (pv 3) pa_nil)) (pe_op op_add (pv 2) pe_int) (nomark _))
      (pss_one (ps_ret (pe_tup (pa_cons pe_str pa_nil))))
      pss_nil)
    (pss_cons (ps_set (i := 4) sc_law_read.nd rfl (Or.inl rfl) pe_int)
    (pss_cons (ps_for (passes_of rfl) rfl (pi_list (pv 3)) (pg_name (i := 5) sc_law_read.nd rfl (Or.inl rfl))
      (pss_one (ps_set (i := 4) sc_law_read.nd rfl (Or.inl rfl) (pe_op op_add (pe_op op_mul pe_int (pv 4)) (pv 5)))))
    (pss_one (ps_ret (pe_tup (pa_cons pe_str (pa_cons (pe_op op_sub (pv 4) pe_int) (pa_cons (pe_op op_add (pe_op op_add (pv 1) (pe_op op_mul pe_int (pv 2))) pe_int) pa_nil))))))))))))), ?_⟩
  obtain ⟨a, bs, n, rfl, hS, hn, hlen, q⟩ := h
  have hz := zrun_le hn
  walk_at "r"
  refine whileM (mon_and (mon_test (mon_op mon_I0 (mon_op mon_I0 mon_var mon_var) (mon_len (mon_cons mon_var mon_nil)))) (mon_test (mon_op mon_eq (mon_op mon_ixL mon_var (mon_op mon_I0 mon_var mon_var)) mon_c)))
    (fun σ H' => ∃ j : Nat, σ = [some (.ref a), some (.int n), some (.int (j : Int)), none, none, none] ∧ H = H' ∧ j ≤ zrun bs n) (fun σ _ => match σ with
      | [_, _, some (.int p), _, _, _] => (bs.length + 1 - p.toNat)
      | _ => 0) ⟨0, rfl, rfl, Nat.zero_le _⟩ ?_
  rintro σ H' ⟨j, rfl, rfl, hj⟩
  walk_at "r"
  refine ifd (fun h1 => ?_) (fun h1 => ?_)
  · walk_at "r"
    have hl : n + j < bs.length := by simp at h1; omega
    refine s_ixL hS (at_of (j := n + j) (by omega) (get_int hl)) ?_
    walk_at "r"
    refine ifd (fun h3 => ?_) (fun h3 => ?_)
    · walk_at "r"
      have hlt : j < zrun bs n := by
        refine Decidable.byContradiction fun z => ?_
        have e : j = zrun bs n := by omega
        refine zrun_end (bs := bs) (a := n) ?_
        rw [← e, List.getElem?_eq_getElem hl, h3]
      refine ⟨⟨j + 1, ?_, rfl, by omega⟩, ?_⟩
      · rfl
      · show bs.length + 1 - ((j : Int) + 1).toNat < bs.length + 1 - (j : Int).toNat
        omega
    · have e : j = zrun bs n := by
        by_cases z : j < zrun bs n
        · have q2 := zrun_at z
          rw [List.getElem?_eq_getElem hl] at q2
          exact absurd (Option.some.inj q2) h3
        · omega
      subst e
      walk_at "r"
      refine ifd (fun h4 => ?_) (fun h4 => ?_)
      · walk_at "r"
        refine ⟨sz (by simp), fun p hp => q p _ (Stp.new (S := S0) (Same.refl _) hp).same hp ?_⟩
        rw [upd_same, cntR, if_pos (by omega)]
      · walk_at "r"
        have em : min 41 (zrun bs n) = zrun bs n := by omega
        have ez1 : (n : Int) + ((zrun bs n : Nat) : Int) = ((n + zrun bs n : Nat) : Int) := by omega
        have ez2 : (n : Int) + 2 * ((zrun bs n : Nat) : Int) + 1 = ((n + zrun bs n + zrun bs n + 1 : Nat) : Int) := by omega
        rw [ez1, ez2]
        refine s_slL hS fun p1 hp1 => ?_
        rw [cutV_nat, show n + zrun bs n + zrun bs n + 1 - (n + zrun bs n) = zrun bs n + 1 by omega, ← List.map_drop, ← List.map_take]
        have e1 : Same H (upd H p1 (.lst (((bs.drop (n + zrun bs n)).take (zrun bs n + 1)).map V.int))) := (Stp.new (S := S0) (Same.refl _) hp1).same
        have f1 : upd H p1 (.lst (((bs.drop (n + zrun bs n)).take (zrun bs n + 1)).map V.int)) p1 = some (.lst (((bs.drop (n + zrun bs n)).take (zrun bs n + 1)).map V.int)) := upd_same
        generalize upd H p1 (.lst (((bs.drop (n + zrun bs n)).take (zrun bs n + 1)).map V.int)) = H1 at e1 f1 ⊢
        walk_at "r"
        refine ifd (fun h5 => ?_) (fun h5 => ?_)
        · walk_at "r"
          refine ⟨sz (by simp), fun p hp => q p _ (e1.trans (Stp.new (S := S0) (Same.refl _) hp).same) (e1.free hp) ?_⟩
          rw [upd_same, cntR, em, if_neg (by omega), if_pos (by simp at h5; omega)]
        · walk_at "r"
          refine ⟨_, rfl, ⟨_, SqL.of f1⟩, ?_⟩
          have eD : cntR bs n = [.str "read", .int (numL ((bs.drop (n + zrun bs n)).take (zrun bs n + 1)) - 1), .int ((n + zrun bs n + zrun bs n + 1 : Nat) : Int)] := by
            rw [cntR, em, if_neg (by omega), if_neg (by simp at h5; omega)]
          rw [eD] at q
          generalize (bs.drop (n + zrun bs n)).take (zrun bs n + 1) = D at *
          refine forL (xs := D.map V.int) (fun i σ H' => ∃ v, σ = [some (.ref a), some (.int n), some (.int (zrun bs n : Nat)), some (.ref p1), some (.int (numL (D.take i))), v] ∧ H1 = H') ⟨_, rfl, rfl⟩ (fun i σ H' _ ⟨_, _, e⟩ => e ▸ SqL.of f1) ?_ ?_
          · rintro i x σ H' hx ⟨v, rfl, rfl⟩
            rw [List.getElem?_map] at hx
            cases z : D[i]? with
            | none => rw [z] at hx; cases hx
            | some b =>
              rw [z] at hx
              cases hx
              have hi : i < D.length := (List.getElem?_eq_some_iff.mp z).1
              have et : D.take (i + 1) = D.take i ++ [b] := by
                rw [List.take_succ_eq_append_getElem hi]
                rw [List.getElem?_eq_getElem hi] at z
                rw [Option.some.inj z]
              have hv : 2 * numL (D.take i) + b = numL (D.take (i + 1)) := by rw [et, numL_snoc]
              walk_at "r"
              rw [hv]
              exact ⟨_, rfl, rfl⟩
          · rintro σ H' ⟨v, rfl, rfl⟩
            rw [List.length_map, List.take_length]
            walk_at "r"
            refine ⟨sz (by simp), fun p hp => q p _ (e1.trans (Stp.new (S := S0) (Same.refl _) hp).same) (e1.free hp) ?_⟩
            rw [upd_same, ez2]
  · have e : j = zrun bs n := by simp at h1; omega
    subst e
    walk_at "r"
    refine ifd (fun h4 => ?_) (fun h4 => ?_)
    · walk_at "r"
      refine ⟨sz (by simp), fun p hp => q p _ (Stp.new (S := S0) (Same.refl _) hp).same hp ?_⟩
      rw [upd_same, cntR, if_pos (by omega)]
    · walk_at "r"
      have em : min 41 (zrun bs n) = zrun bs n := by omega
      have ez1 : (n : Int) + ((zrun bs n : Nat) : Int) = ((n + zrun bs n : Nat) : Int) := by omega
      have ez2 : (n : Int) + 2 * ((zrun bs n : Nat) : Int) + 1 = ((n + zrun bs n + zrun bs n + 1 : Nat) : Int) := by omega
      rw [ez1, ez2]
      refine s_slL hS fun p1 hp1 => ?_
      rw [cutV_nat, show n + zrun bs n + zrun bs n + 1 - (n + zrun bs n) = zrun bs n + 1 by omega, ← List.map_drop, ← List.map_take]
      have e1 : Same H (upd H p1 (.lst (((bs.drop (n + zrun bs n)).take (zrun bs n + 1)).map V.int))) := (Stp.new (S := S0) (Same.refl _) hp1).same
      have f1 : upd H p1 (.lst (((bs.drop (n + zrun bs n)).take (zrun bs n + 1)).map V.int)) p1 = some (.lst (((bs.drop (n + zrun bs n)).take (zrun bs n + 1)).map V.int)) := upd_same
      generalize upd H p1 (.lst (((bs.drop (n + zrun bs n)).take (zrun bs n + 1)).map V.int)) = H1 at e1 f1 ⊢
      walk_at "r"
      refine ifd (fun h5 => ?_) (fun h5 => ?_)
      · walk_at "r"
        refine ⟨sz (by simp), fun p hp => q p _ (e1.trans (Stp.new (S := S0) (Same.refl _) hp).same) (e1.free hp) ?_⟩
        rw [upd_same, cntR, em, if_neg (by omega), if_pos (by simp at h5; omega)]
      · walk_at "r"
        refine ⟨_, rfl, ⟨_, SqL.of f1⟩, ?_⟩
        have eD : cntR bs n = [.str "read", .int (numL ((bs.drop (n + zrun bs n)).take (zrun bs n + 1)) - 1), .int ((n + zrun bs n + zrun bs n + 1 : Nat) : Int)] := by
          rw [cntR, em, if_neg (by omega), if_neg (by simp at h5; omega)]
        rw [eD] at q
        generalize (bs.drop (n + zrun bs n)).take (zrun bs n + 1) = D at *
        refine forL (xs := D.map V.int) (fun i σ H' => ∃ v, σ = [some (.ref a), some (.int n), some (.int (zrun bs n : Nat)), some (.ref p1), some (.int (numL (D.take i))), v] ∧ H1 = H') ⟨_, rfl, rfl⟩ (fun i σ H' _ ⟨_, _, e⟩ => e ▸ SqL.of f1) ?_ ?_
        · rintro i x σ H' hx ⟨v, rfl, rfl⟩
          rw [List.getElem?_map] at hx
          cases z : D[i]? with
          | none => rw [z] at hx; cases hx
          | some b =>
            rw [z] at hx
            cases hx
            have hi : i < D.length := (List.getElem?_eq_some_iff.mp z).1
            have et : D.take (i + 1) = D.take i ++ [b] := by
              rw [List.take_succ_eq_append_getElem hi]
              rw [List.getElem?_eq_getElem hi] at z
              rw [Option.some.inj z]
            have hv : 2 * numL (D.take i) + b = numL (D.take (i + 1)) := by rw [et, numL_snoc]
            walk_at "r"
            rw [hv]
            exact ⟨_, rfl, rfl⟩
        · rintro σ H' ⟨v, rfl, rfl⟩
          rw [List.length_map, List.take_length]
          walk_at "r"
          refine ⟨sz (by simp), fun p hp => q p _ (e1.trans (Stp.new (S := S0) (Same.refl _) hp).same) (e1.free hp) ?_⟩
          rw [upd_same, ez2]
abbrev s_law_signed : Stmt := topS 21
theorem sc_law_signed : FnScope ["_law_told", "_law_count"] ["_law_told"] (defScope s_law_signed) := ⟨rfl, rfl, rfl, by decide +kernel, rfl, by decide +kernel, by decide +kernel⟩
def Ok_law_signed (P : Program) (w : World) (K : PySem.W.Frag) (mg : Str → Option Value) (base : Heap) : Prop := ∃ fA fd, Fn P w K mg base (L2.CX P w) 1 "_law_signed" s_law_signed fA fd ["_law_told"] (sp_law_signed K mg)
theorem okx_law_signed (Z : Zs K mg) {fA : Addr} {fd : FuncData} (F : Fun K "_law_signed" "_law_signed" s_law_signed fA fd) (m : mg "_law_signed" = some (.ref fA))  : Fn P w K mg base (L2.CX P w) 1 "_law_signed" s_law_signed fA fd ["_law_told"] (sp_law_signed K mg) := by
  refine ⟨F.okX sc_law_signed (fun vs H Q E h => h.1) (fun cdv A outer s H vs Q E hr h => ?_), m, F.kp, F.binds fun _ _ _ _ _ _ us hl => match us, hl with | [_], _ => rfl, F⟩
  have hu64 := hr.units
  obtain ⟨hlen, h⟩ := h
  refine ⟨_, (pss_cons (ps_if (pt_cmpR op_ne (pe_ix (i_tup K rfl) (pv 0) pe_int (fun _ _ => rfl)) pe_str (nomark _))
      (pss_one (ps_ret (pv 0)))
      pss_nil)
    (pss_cons (ps_set (i := 1) sc_law_signed.nd rfl (Or.inl rfl) (pe_ix (i_tup K rfl) (pv 0) pe_int (fun _ _ => rfl)))
    (pss_one (ps_ret (pe_tup (pa_cons pe_str (pa_cons (pe_ifExp (pt_cmpR op_eq (pe_op op_mod (pv 1) pe_int) pe_int (nomark _)) (pe_op op_fdiv (pv 1) pe_int) (pe_op op_sub (pe_op op_sub pe_int (pe_op op_fdiv (pv 1) pe_int)) pe_int)) (pa_cons (pe_ix (i_tup K rfl) (pv 0) pe_int (fun _ _ => rfl)) pa_nil)))))))), ?_⟩
  obtain ⟨a, bs, n, rfl, ha, q⟩ := h
  unfold cntR at ha q
  by_cases c1 : 40 < min 41 (zrun bs n)
  · rw [if_pos c1] at ha q
    walk_at "r"
    refine ifn (fun h => absurd h (by decide)) (fun h => ?_)
    walk_at "r"
    exact q a H (Same.refl H) ha
  · rw [if_neg c1] at ha q
    by_cases c2 : bs.length < n + min 41 (zrun bs n) + min 41 (zrun bs n) + 1
    · rw [if_pos c2] at ha q
      walk_at "r"
      refine ifn (fun h => absurd h (by decide)) (fun h => ?_)
      walk_at "r"
      exact q a H (Same.refl H) ha
    · rw [if_neg c2] at ha q
      generalize numL ((bs.drop (n + min 41 (zrun bs n))).take (min 41 (zrun bs n) + 1)) - 1 = c at ha q
      generalize ((n + min 41 (zrun bs n) + min 41 (zrun bs n) + 1 : Nat) : Int) = pl at ha q
      walk_at "r"
      refine ifn (fun h => ?_) (fun h => absurd rfl h)
      walk_at "r"
      refine ifd (fun h => ?_) (fun h => ?_)
      · walk_at "r"
        refine ⟨sz (by simp), fun p2 hp2 => q p2 _ (Stp.new (S := S0) (Same.refl _) hp2).same ?_⟩
        rw [upd_same, sgR, unsgn, if_pos h]
      · walk_at "r"
        refine ⟨sz (by simp), fun p2 hp2 => q p2 _ (Stp.new (S := S0) (Same.refl _) hp2).same ?_⟩
        rw [upd_same, sgR, unsgn, if_neg h, show (0 : Int) - c / 2 - 1 = -((c + 1) / 2) by omega]
abbrev s_law_word : Stmt := topS 22
theorem sc_law_word : FnScope ["_law_is_signed", "_law_bits_here", "_law_at", "_law_told", "e"] ["_law_is_signed", "_law_bits_here", "_law_at"] (defScope s_law_word) := ⟨rfl, rfl, rfl, by decide +kernel, rfl, by decide +kernel, by decide +kernel⟩
def Ok_law_word (P : Program) (w : World) (K : PySem.W.Frag) (mg : Str → Option Value) (base : Heap) : Prop := ∃ fA fd, Fn P w K mg base (L2.CX P w) 5 "_law_word" s_law_word fA fd ["_law_is_signed", "_law_bits_here", "_law_at"] (sp_law_word K mg)
theorem okx_law_word (Z : Zs K mg) {fA : Addr} {fd : FuncData} (F : Fun K "_law_word" "_law_word" s_law_word fA fd) (m : mg "_law_word" = some (.ref fA)) (C_read_signed : Ok_read_signed P w K mg base) (C_read_count : Ok_read_count P w K mg base) : Fn P w K mg base (L2.CX P w) 5 "_law_word" s_law_word fA fd ["_law_is_signed", "_law_bits_here", "_law_at"] (sp_law_word K mg) := by
  obtain ⟨_, _, C_read_signed⟩ := C_read_signed
  obtain ⟨_, _, C_read_count⟩ := C_read_count
  refine ⟨F.okX sc_law_word (fun vs H Q E h => h.1) (fun cdv A outer s H vs Q E hr h => ?_), m, F.kp, F.binds fun _ _ _ _ _ _ us hl => match us, hl with | [_, _, _], _ => rfl, F⟩
  have hu64 := hr.units
  obtain ⟨hlen, h⟩ := h
  refine ⟨_, (pss_cons (ps_tryH rfl rfl sc_law_word.nd takes0 (fun W pn xe tk px => (pss_one (ps_set (i := 3) sc_law_word.nd rfl (Or.inl rfl) (pe_ifExp (pt_val (pv 0)) (pe_callS C_read_signed.G (hr.mono (by decide)) rfl C_read_signed.m C_read_signed.kp C_read_signed.b (fun σ => passAt tk σ) (pa_cons (pv 1) (pa_cons (pv 2) pa_nil))) (pe_callS C_read_count.G (hr.mono (by decide)) rfl C_read_count.m C_read_count.kp C_read_count.b (fun σ => passAt tk σ) (pa_cons (pv 1) (pa_cons (pv 2) pa_nil))))))) (.named (i := 4) rfl rfl ⟨rfl, by decide, .inl Z.x_BadBits.g⟩ (fun a oe cls d pn hz hf => (pss_one (ps_set (i := 3) sc_law_word.nd rfl (Or.inl rfl) (pe_tup (pa_cons pe_str (pa_cons (pe_callB (call_isX K rfl hz hf) (by rfl) Z.z_isinstance (by decide +kernel) (pa_cons (pv 4) (pa_cons (pe_glob (v := .ref (exA mg "NarrowError")) rfl Z.x_NarrowError.g rfl) pa_nil))) (pa_cons (pe_callB (call_isX K rfl hz hf) (by rfl) Z.z_isinstance (by decide +kernel) (pa_cons (pv 4) (pa_cons (pe_glob (v := .ref (exA mg "Outside")) rfl Z.x_Outside.g rfl) pa_nil))) pa_nil))))))) (.named (i := 4) rfl rfl ⟨rfl, by decide, .inl Z.x_Outside.g⟩ (fun a oe cls d pn hz hf => (pss_one (ps_set (i := 3) sc_law_word.nd rfl (Or.inl rfl) (pe_tup (pa_cons pe_str (pa_cons (pe_callB (call_isX K rfl hz hf) (by rfl) Z.z_isinstance (by decide +kernel) (pa_cons (pv 4) (pa_cons (pe_glob (v := .ref (exA mg "NarrowError")) rfl Z.x_NarrowError.g rfl) pa_nil))) (pa_cons (pe_callB (call_isX K rfl hz hf) (by rfl) Z.z_isinstance (by decide +kernel) (pa_cons (pv 4) (pa_cons (pe_glob (v := .ref (exA mg "BadBits")) rfl Z.x_BadBits.g rfl) pa_nil))) pa_nil))))))) .nil)))
    (pss_one (ps_ret (pv 3)))), ?_⟩
  obtain ⟨sg, a, xs, n, r, rfl, hS, ht, hw, q⟩ := h
  cases sg with
  | true =>
    walk_at "r"
    refine ⟨rfl, a, xs, n, rfl, hS, ht, ?_⟩
    cases hw with
    | bad h =>
      refine .inl ⟨h, true, Z.x_BadBits.exm Z.s_BadBits_BadBits, fun _ b hb => ?_, fun q => nomatch q⟩
      walk_at "r"
      refine s_isX Z.x_BadBits.c Z.k_BadBits_NarrowError ?_
      walk_at "r"
      refine s_isX Z.x_BadBits.c Z.k_BadBits_Outside ?_
      walk_at "r"
      refine ⟨sz (by simp), fun p hp => ?_⟩
      walk_at "r"
      refine s_ret (s_var (v := .ref p) rfl ?_)
      exact q p _ (Stp.new (S := S0) (Same.refl _) hp).same upd_same
    | out h h2 =>
      refine .inr (.inl ⟨h, h2, false, Z.x_BadBits.exm Z.s_Outside_BadBits, fun q => (nomatch q), fun _ => ⟨true, Z.x_Outside.exm Z.s_Outside_Outside, fun _ b hb => ?_, fun q => nomatch q⟩⟩)
      walk_at "r"
      refine s_isX Z.x_Outside.c Z.k_Outside_NarrowError ?_
      walk_at "r"
      refine s_isX Z.x_Outside.c Z.k_Outside_BadBits ?_
      walk_at "r"
      refine ⟨sz (by simp), fun p hp => ?_⟩
      walk_at "r"
      refine s_ret (s_var (v := .ref p) rfl ?_)
      exact q p _ (Stp.new (S := S0) (Same.refl _) hp).same upd_same
    | @rd bs m hb hm hl =>
      refine .inr (.inr ⟨bs, m, rfl, hb, rfl, hm, hl, fun p H1 e1 p0 hp => ?_⟩)
      walk_at "r"
      exact q p H1 e1 hp
  | false =>
    walk_at "r"
    refine ⟨rfl, a, xs, n, rfl, hS, ht, ?_⟩
    cases hw with
    | bad h =>
      refine .inl ⟨h, true, Z.x_BadBits.exm Z.s_BadBits_BadBits, fun _ b hb => ?_, fun q => nomatch q⟩
      walk_at "r"
      refine s_isX Z.x_BadBits.c Z.k_BadBits_NarrowError ?_
      walk_at "r"
      refine s_isX Z.x_BadBits.c Z.k_BadBits_Outside ?_
      walk_at "r"
      refine ⟨sz (by simp), fun p hp => ?_⟩
      walk_at "r"
      refine s_ret (s_var (v := .ref p) rfl ?_)
      exact q p _ (Stp.new (S := S0) (Same.refl _) hp).same upd_same
    | out h h2 =>
      refine .inr (.inl ⟨h, h2, false, Z.x_BadBits.exm Z.s_Outside_BadBits, fun q => (nomatch q), fun _ => ⟨true, Z.x_Outside.exm Z.s_Outside_Outside, fun _ b hb => ?_, fun q => nomatch q⟩⟩)
      walk_at "r"
      refine s_isX Z.x_Outside.c Z.k_Outside_NarrowError ?_
      walk_at "r"
      refine s_isX Z.x_Outside.c Z.k_Outside_BadBits ?_
      walk_at "r"
      refine ⟨sz (by simp), fun p hp => ?_⟩
      walk_at "r"
      refine s_ret (s_var (v := .ref p) rfl ?_)
      exact q p _ (Stp.new (S := S0) (Same.refl _) hp).same upd_same
    | @rd bs m hb hm hl =>
      refine .inr (.inr ⟨bs, m, rfl, hb, rfl, hm, hl, fun p H1 e1 p0 hp => ?_⟩)
      walk_at "r"
      exact q p H1 e1 hp
abbrev s_law_refused_right : Stmt := topS 23
theorem sc_law_refused_right : FnScope ["_law_source", "_law_bits_here", "_law_far", "_law_spoilt", "_law_at", "_law_is_signed", "_law_place"] ["_law_source", "_law_bits_here"] (defScope s_law_refused_right) := ⟨rfl, rfl, rfl, by decide +kernel, rfl, by decide +kernel, by decide +kernel⟩
def Ok_law_refused_right (P : Program) (w : World) (K : PySem.W.Frag) (mg : Str → Option Value) (base : Heap) : Prop := ∃ fA fd, Fn P w K mg base (L2.CX P w) 6 "_law_refused_right" s_law_refused_right fA fd ["_law_source", "_law_bits_here"] (sp_law_refused_right K mg)
theorem okx_law_refused_right (Z : Zs K mg) {fA : Addr} {fd : FuncData} (F : Fun K "_law_refused_right" "_law_refused_right" s_law_refused_right fA fd) (m : mg "_law_refused_right" = some (.ref fA)) (C_law_take : Ok_law_take P w K mg base) (C_law_word : Ok_law_word P w K mg base) (C_law_one : Ok_law_one P w K mg base) : Fn P w K mg base (L2.CX P w) 6 "_law_refused_right" s_law_refused_right fA fd ["_law_source", "_law_bits_here"] (sp_law_refused_right K mg) := by
  obtain ⟨_, _, C_law_take⟩ := C_law_take
  obtain ⟨_, _, C_law_word⟩ := C_law_word
  obtain ⟨_, _, C_law_one⟩ := C_law_one
  refine ⟨F.okX sc_law_refused_right (fun vs H Q E h => h.1) (fun cdv A outer s H vs Q E hr h => ?_), m, F.kp, F.binds fun _ _ _ _ _ _ us hl => match us, hl with | [_, _], _ => rfl, F⟩
  have hu64 := hr.units
  obtain ⟨hlen, h⟩ := h
  refine ⟨_, (pss_cons (ps_set (i := 2) sc_law_refused_right.nd rfl (Or.inl rfl) (pe_lst (pa_cons (pe_op op_sub (pe_un un_neg pe_int) (pe_call C_law_take.G (hr.mono (by decide)) rfl C_law_take.m C_law_take.kp C_law_take.b .nil passL (pa_cons (pv 0) (pa_cons pe_int pa_nil)))) (pa_cons (pe_op op_add (pe_op op_add (pe_callB (c_len K rfl) (by rfl) Z.z_len (by decide +kernel) (pa_cons (pv 1) pa_nil)) pe_int) (pe_call C_law_take.G (hr.mono (by decide)) rfl C_law_take.m C_law_take.kp C_law_take.b .nil passL (pa_cons (pv 0) (pa_cons pe_int pa_nil)))) pa_nil))))
    (pss_cons (ps_par (i := 3) (j := 4) (by rfl) sc_law_refused_right.nd rfl rfl (by decide) rfl rfl (pa_cons (pe_op op_cat (pv 1) (pe_lst (pa_cons pe_int pa_nil))) (pa_cons (pe_call C_law_take.G (hr.mono (by decide)) rfl C_law_take.m C_law_take.kp C_law_take.b .nil passL (pa_cons (pv 0) (pa_cons (pe_op op_add (pe_callB (c_len K rfl) (by rfl) Z.z_len (by decide +kernel) (pa_cons (pv 1) pa_nil)) pe_int) pa_nil))) pa_nil)) (by rfl))
    (pss_cons (ps_asg (pe_call C_law_one.G (hr.mono (by decide)) rfl C_law_one.m C_law_one.kp C_law_one.b .nil passL (pa_cons (pv 0) (pa_cons (pe_lst (pa_cons pe_int (pa_cons (pe_un un_neg pe_int) (pa_cons pe_non (pa_cons pe_str (pa_cons (pe_lst (pa_cons pe_int pa_nil)) (pa_cons (pe_op op_pow pe_int pe_int) pa_nil))))))) pa_nil))) (pg_sub (pv 3) (pv 4) set_list))
    (pss_cons (ps_for (passes_of rfl) rfl (pi_list (pe_lst (pa_cons pe_bl (pa_cons pe_bl pa_nil)))) (pg_name (i := 5) sc_law_refused_right.nd rfl (Or.inl rfl))
      (pss_cons (ps_for (passes_of rfl) rfl (pi_list (pv 2)) (pg_name (i := 6) sc_law_refused_right.nd rfl (Or.inl rfl))
      (pss_one (ps_if (pt_cmpR (o_neD K rfl hu64) (pe_call C_law_word.G (hr.mono (by decide)) rfl C_law_word.m C_law_word.kp C_law_word.b .nil passL (pa_cons (pv 5) (pa_cons (pv 1) (pa_cons (pv 6) pa_nil)))) (pe_tup (pa_cons pe_str (pa_cons pe_bl (pa_cons pe_bl pa_nil)))) (nomark _))
      (pss_one (ps_ret pe_bl))
      pss_nil)))
    (pss_one (ps_for (passes_of rfl) rfl (pi_list (pe_op op_cat (pv 2) (pe_lst (pa_cons (pe_call C_law_take.G (hr.mono (by decide)) rfl C_law_take.m C_law_take.kp C_law_take.b .nil passL (pa_cons (pv 0) (pa_cons (pe_callB (c_len K rfl) (by rfl) Z.z_len (by decide +kernel) (pa_cons (pv 3) pa_nil)) pa_nil))) pa_nil)))) (pg_name (i := 6) sc_law_refused_right.nd rfl (Or.inl rfl))
      (pss_one (ps_if (pt_cmpR (o_neD K rfl hu64) (pe_call C_law_word.G (hr.mono (by decide)) rfl C_law_word.m C_law_word.kp C_law_word.b .nil passL (pa_cons (pv 5) (pa_cons (pv 3) (pa_cons (pv 6) pa_nil)))) (pe_tup (pa_cons pe_str (pa_cons pe_bl (pa_cons pe_bl pa_nil)))) (nomark _))
      (pss_one (ps_ret pe_bl))
      pss_nil))))))
    (pss_one (ps_ret pe_bl)))))), ?_⟩
  obtain ⟨F0, p, qa, bs, rfl, hs, hq, hb, hl, q⟩ := h
  walk_at "r"
  refine ⟨rfl, F0, p, _, rfl, hs, by decide, by decide, fun x1 H_1 s_1 u_1 x10 x11 => ?_⟩
  have t_1 := u_1
  walk_at "r"
  refine s_len (SqL.of (s_1.1 _ _ hq)) ?_
  walk_at "r"
  refine ⟨rfl, F0, p, _, rfl, s_1, by decide, by decide, fun x2 H_2 s_2 u_2 x20 x21 => ?_⟩
  have t_2 := t_1.trans u_2
  walk_at "r"
  refine ⟨sz (by simp), fun far hfar => ?_⟩
  have s_3 := s_2.new (o := .lst [.int (-1 - x1), .int ((bs.map V.int).length + 1 + x2)]) hfar
  have g_3 := Stp.new (S := S1 p) (o := .lst [.int (-1 - x1), .int ((bs.map V.int).length + 1 + x2)]) s_2.1 hfar
  have t_3 := t_2.trans g_3
  have f_3 := g_3.ff
  have e_far : upd F0 far (.lst [.int (-1 - x1), .int ((bs.map V.int).length + 1 + x2)]) far = some (.lst [.int (-1 - x1), .int ((bs.map V.int).length + 1 + x2)]) := upd_same
  clear g_3
  generalize upd F0 far (.lst [.int (-1 - x1), .int ((bs.map V.int).length + 1 + x2)]) = F_3 at s_3 t_3 f_3 e_far
  generalize upd H_2 far (.lst [.int (-1 - x1), .int ((bs.map V.int).length + 1 + x2)]) = H_3 at s_3 t_3 ⊢
  walk_at "r"
  refine ⟨sz (by simp), fun z0 hz0 => ?_⟩
  have s_4 := s_3.new (o := .lst [.int 0]) hz0
  have g_4 := Stp.new (S := S1 p) (o := .lst [.int 0]) s_3.1 hz0
  have t_4 := t_3.trans g_4
  have f_4 := g_4.ff
  have e_z0 : upd F_3 z0 (.lst [.int 0]) z0 = some (.lst [.int 0]) := upd_same
  clear g_4
  generalize upd F_3 z0 (.lst [.int 0]) = F_4 at s_4 t_4 f_4 e_z0
  generalize upd H_3 z0 (.lst [.int 0]) = H_4 at s_4 t_4 ⊢
  replace e_far := f_4 _ _ e_far
  walk_at "r"
  have hq' := t_4.ff _ _ hq
  refine ⟨_, _, _, _, rfl, rfl, s_4.1 _ _ hq', s_4.1 _ _ e_z0, sz (by simp; omega), fun sp hsp => ?_⟩
  have n1 : sp ≠ p := (s_4.ne hsp).symm
  have c1 := Stp.cell (S := S1 p) (o := .lst (bs.map V.int ++ [V.int 0])) s_4.1 hsp
  have s1 := s_4.of (Stp.new (S := S0) (o := .lst (bs.map V.int ++ [V.int 0])) s_4.1 hsp).same
  have e1 : upd H_4 sp (.lst (bs.map V.int ++ [V.int 0])) sp = some (.lst (bs.map V.int ++ [V.int 0])) := upd_same
  have fp1 := s_4.1.free hsp
  generalize upd H_4 sp (.lst (bs.map V.int ++ [V.int 0])) = H1 at c1 s1 e1 ⊢
  walk_at "r"
  refine s_len (SqL.of (s1.1 _ _ hq')) ?_
  walk_at "r"
  refine ⟨rfl, F_4, p, _, rfl, s1, by simp <;> omega, by simp <;> omega, fun x3 H_100 s_100 u_100 x30 x31 => ?_⟩
  have t_100 := u_100
  walk_at "r"
  refine ⟨sz (by simp), fun l1 hl1 => ?_⟩
  have s_101 := s_100.new (o := .lst [.int 1]) hl1
  have g_101 := Stp.new (S := S1 p) (o := .lst [.int 1]) s_100.1 hl1
  have t_101 := t_100.trans g_101
  have f_101 := g_101.ff
  have e_l1 : upd F_4 l1 (.lst [.int 1]) l1 = some (.lst [.int 1]) := upd_same
  clear g_101
  generalize upd F_4 l1 (.lst [.int 1]) = F_101 at s_101 t_101 f_101 e_l1
  generalize upd H_100 l1 (.lst [.int 1]) = H_101 at s_101 t_101 ⊢
  walk_at "r"
  refine ⟨sz (by simp), fun l2 hl2 => ?_⟩
  have s_102 := s_101.new (o := .lst [V.int 2, .int (-1), .non, .str "1", .ref l1, .int (10 ^ (21 : Int).toNat)]) hl2
  have g_102 := Stp.new (S := S1 p) (o := .lst [V.int 2, .int (-1), .non, .str "1", .ref l1, .int (10 ^ (21 : Int).toNat)]) s_101.1 hl2
  have t_102 := t_101.trans g_102
  have f_102 := g_102.ff
  have e_l2 : upd F_101 l2 (.lst [V.int 2, .int (-1), .non, .str "1", .ref l1, .int (10 ^ (21 : Int).toNat)]) l2 = some (.lst [V.int 2, .int (-1), .non, .str "1", .ref l1, .int (10 ^ (21 : Int).toNat)]) := upd_same
  clear g_102
  generalize upd F_101 l2 (.lst [V.int 2, .int (-1), .non, .str "1", .ref l1, .int (10 ^ (21 : Int).toNat)]) = F_102 at s_102 t_102 f_102 e_l2
  generalize upd H_101 l2 (.lst [V.int 2, .int (-1), .non, .str "1", .ref l1, .int (10 ^ (21 : Int).toNat)]) = H_102 at s_102 t_102 ⊢
  replace e_l1 := f_102 _ _ e_l1
  walk_at "r"
  refine ⟨rfl, F_102, p, l2, _, rfl, s_102, SqL.of e_l2, by simp, by simp, fun v H_103 s_103 u_103 hv => ?_⟩
  have t_103 := t_102.trans u_103
  walk_at "r"
  have e2 := t_103.keep sp _ n1 e1
  have fp2 := (t_103.fo sp _ e1).trans fp1
  have hj : x3.toNat < (bs.map V.int ++ [V.int 0]).length := by simp at x31 ⊢; omega
  refine s_setL (j := x3.toNat) e2 (ixN_at (by omega) hj) ?_
  have c2 := (c1.trans t_103).wrNew (o := .lst ((bs.map V.int ++ [V.int 0]).set x3.toNat v)) hsp fp2
  have c3 := (t_4.trans (c2.freeze hsp upd_same fp2))
  have s2 := (s_103.upd (o := .lst ((bs.map V.int ++ [V.int 0]).set x3.toNat v)) n1 fp2).frz n1.symm (c2.freeze hsp upd_same fp2).fh
  have f2 := (c2.freeze hsp upd_same fp2).ff
  have g2 : upd F_102 sp (.lst ((bs.map V.int ++ [V.int 0]).set x3.toNat v)) sp = some (.lst ((bs.map V.int ++ [V.int 0]).set x3.toNat v)) := upd_same
  have l2 : upd F_102 sp (.lst ((bs.map V.int ++ [V.int 0]).set x3.toNat v)) l1 = some (.lst [.int 1]) := (Stp.cell (S := S1 sp) (fun _ _ e => e) fp2 : Stp (S1 sp) F_102 F_102 F_102 (upd F_102 sp (.lst ((bs.map V.int ++ [V.int 0]).set x3.toNat v)))).fh _ _ e_l1
  generalize upd F_102 sp (.lst ((bs.map V.int ++ [V.int 0]).set x3.toNat v)) = F_s at c3 s2 f2 g2 l2
  generalize upd H_103 sp (.lst ((bs.map V.int ++ [V.int 0]).set x3.toNat v)) = H_s at c3 s2 ⊢
  have hfar := f2 _ _ e_far
  have hqa := f2 _ _ hq'
  have bad : ((bs.map V.int ++ [V.int 0]).set x3.toNat v).all goodV = false := by
    rw [List.all_eq_false]
    refine ⟨v, List.mem_set hj v, ?_⟩
    simp only [List.mem_cons, List.not_mem_nil, or_false] at hv
    rcases hv with rfl | rfl | rfl | rfl | rfl | rfl <;> first | decide | simp [goodV]
  have thg : ∀ H', Same F_s H' → ∀ x ∈ (bs.map V.int ++ [V.int 0]).set x3.toNat v, Thg H' x := fun H' sm x hx => by
    rcases List.mem_or_eq_of_mem_set hx with hx | rfl
    · rcases List.mem_append.mp hx with hx | hx
      · exact thg_ints _ _ x hx
      · rw [List.mem_singleton] at hx; subst hx; exact .int 0
    · simp only [List.mem_cons, List.not_mem_nil, or_false] at hv
      rcases hv with rfl | rfl | rfl | rfl | rfl | rfl
      · exact .int _
      · exact .int _
      · exact .non
      · exact .str _
      · exact .lst (sm _ _ l2)
      · exact .int _
  refine s_seq ?_
  walk_at "r"
  have e_far := hfar
  have e_qa := hqa
  have e_sp := g2
  refine ⟨sz (by simp), fun w1 hw1 => ?_⟩
  have s_200 := s2.new (o := .lst [.bl false, .bl true]) hw1
  have g_200 := Stp.new (S := S1 p) (o := .lst [.bl false, .bl true]) s2.1 hw1
  have t_200 := c3.trans g_200
  have f_200 := g_200.ff
  have e_w1 : upd F_s w1 (.lst [.bl false, .bl true]) w1 = some (.lst [.bl false, .bl true]) := upd_same
  clear g_200
  generalize upd F_s w1 (.lst [.bl false, .bl true]) = F_200 at s_200 t_200 f_200 e_w1
  generalize upd H_s w1 (.lst [.bl false, .bl true]) = H_200 at s_200 t_200 ⊢
  replace e_far := f_200 _ _ e_far
  replace e_qa := f_200 _ _ e_qa
  replace e_sp := f_200 _ _ e_sp
  have thg' : ∀ H', Same F_200 H' → ∀ x ∈ (bs.map V.int ++ [V.int 0]).set x3.toNat v, Thg H' x := fun H' sm => thg H' ((f_200).trans sm)
  refine ⟨_, rfl, ⟨_, s_200.1.seq (SqL.of e_w1)⟩, ?_⟩
  refine forL (xs := [.bl false, .bl true]) (fun i σ H' => ∃ v5 v6, σ = [some (.ref p), some (.ref qa), some (.ref far), some (.ref sp), some (.int x3), v5, v6] ∧ Src F_200 H' p ∧ Stp (S1 p) F_200 H_200 F_200 H') ⟨_, _, rfl, s_200, .rfl' s_200.1⟩ (fun i σ H' _ ⟨_, _, _, s, _⟩ => s.1.seq (SqL.of e_w1)) ?_ ?_
  · rintro i x σ H1 hx ⟨v5, v6, rfl, a1, b1⟩
    obtain ⟨sg, rfl⟩ : ∃ sg, x = .bl sg := by
      have := List.mem_of_getElem? hx
      simp at this
      rcases this with rfl | rfl <;> exact ⟨_, rfl⟩
    walk_at "r"
    refine ⟨_, rfl, ⟨_, a1.1.seq (SqL.of e_far)⟩, ?_⟩
    refine forL (xs := [.int (-1 - x1), .int ((bs.map V.int).length + 1 + x2)]) (fun i σ H' => ∃ v6, σ = [some (.ref p), some (.ref qa), some (.ref far), some (.ref sp), some (.int x3), some (.bl sg), v6] ∧ Src F_200 H' p ∧ Stp (S1 p) F_200 H1 F_200 H') ⟨_, rfl, a1, .rfl' a1.1⟩ (fun i σ H' _ ⟨_, _, s, _⟩ => s.1.seq (SqL.of e_far)) ?_ ?_
    · rintro i x σ H2 hx ⟨v6, rfl, a2, b2⟩
      obtain ⟨m, rfl, hm⟩ : ∃ m : Int, x = .int m ∧ ¬ (0 ≤ m ∧ m ≤ (bs.map V.int).length) := by
        have := List.mem_of_getElem? hx
        simp at this
        rcases this with rfl | rfl | rfl <;> exact ⟨_, rfl, by first | trivial | (simp <;> omega)⟩
      walk_at "r"
      refine ⟨rfl, sg, qa, _, m, _, rfl, a2.1.seq (SqL.of e_qa), thg_ints _ _, .out (good_bits hb) (by simpa using hm), fun y H3 e3 hy => ?_⟩
      walk_at "r"
      refine ⟨sz (by simp), fun z hz => ?_⟩
      have e4 : Same H3 (upd H3 z (.tup [.str "outside", .bl true, .bl false])) := (Stp.new (S := S0) (Same.refl H3) hz).same
      have f4 : upd H3 z (.tup [.str "outside", .bl true, .bl false]) z = some (.tup [.str "outside", .bl true, .bl false]) := upd_same
      generalize upd H3 z (.tup [.str "outside", .bl true, .bl false]) = H4 at e4 f4 ⊢
      refine s_neTs (SqT.of (e4 _ _ hy)) (SqT.of f4) (by decide +kernel) ?_
      walk_at "r"
      exact ⟨_, rfl, a2.of (e3.trans e4), b2.trans (.ofSame a2.1 (e3.trans e4))⟩
    · rintro σ H2 ⟨v6, rfl, a2, b2⟩
      walk_at "r"
      refine s_len (SqL.of (a2.1 _ _ e_sp)) ?_
      walk_at "r"
      refine ⟨rfl, F_200, p, _, rfl, a2, by simp <;> omega, by simp <;> omega, fun x4 H_400 s_400 u_400 x40 x41 => ?_⟩
      have t_400 := b2.trans u_400
      walk_at "r"
      refine ⟨sz (by simp), fun y1 hy1 => ?_⟩
      have s_401 := s_400.new (o := .lst [.int x4]) hy1
      have g_401 := Stp.new (S := S1 p) (o := .lst [.int x4]) s_400.1 hy1
      have t_401 := t_400.trans g_401
      have f_401 := g_401.ff
      have e_y1 : upd F_200 y1 (.lst [.int x4]) y1 = some (.lst [.int x4]) := upd_same
      clear g_401
      generalize upd F_200 y1 (.lst [.int x4]) = F_401 at s_401 t_401 f_401 e_y1
      generalize upd H_400 y1 (.lst [.int x4]) = H_401 at s_401 t_401 ⊢
      replace e_far := f_401 _ _ e_far
      replace e_sp := f_401 _ _ e_sp
      replace e_qa := f_401 _ _ e_qa
      replace e_w1 := f_401 _ _ e_w1
      walk_at "r"
      refine ⟨_, _, _, _, rfl, rfl, s_401.1 _ _ e_far, s_401.1 _ _ e_y1, sz (by simp), fun y2 hy2 => ?_⟩
      have s_402 := s_401.new (o := .lst ([.int (-1 - x1), .int ((bs.map V.int).length + 1 + x2)] ++ [.int x4])) hy2
      have g_402 := Stp.new (S := S1 p) (o := .lst ([.int (-1 - x1), .int ((bs.map V.int).length + 1 + x2)] ++ [.int x4])) s_401.1 hy2
      have t_402 := t_401.trans g_402
      have f_402 := g_402.ff
      have e_y2 : upd F_401 y2 (.lst ([.int (-1 - x1), .int ((bs.map V.int).length + 1 + x2)] ++ [.int x4])) y2 = some (.lst ([.int (-1 - x1), .int ((bs.map V.int).length + 1 + x2)] ++ [.int x4])) := upd_same
      clear g_402
      generalize upd F_401 y2 (.lst ([.int (-1 - x1), .int ((bs.map V.int).length + 1 + x2)] ++ [.int x4])) = F_402 at s_402 t_402 f_402 e_y2
      generalize upd H_401 y2 (.lst ([.int (-1 - x1), .int ((bs.map V.int).length + 1 + x2)] ++ [.int x4])) = H_402 at s_402 t_402 ⊢
      replace e_far := f_402 _ _ e_far
      replace e_sp := f_402 _ _ e_sp
      replace e_qa := f_402 _ _ e_qa
      replace e_w1 := f_402 _ _ e_w1
      replace e_y1 := f_402 _ _ e_y1
      walk_at "r"
      refine ⟨_, rfl, ⟨_, s_402.1.seq (SqL.of e_y2)⟩, ?_⟩
      have thg'' : ∀ H', Same F_402 H' → ∀ x ∈ (bs.map V.int ++ [V.int 0]).set x3.toNat v, Thg H' x := fun H' sm => thg' H' ((t_402.ff).trans sm)
      refine forL (xs := [.int (-1 - x1), .int ((bs.map V.int).length + 1 + x2)] ++ [.int x4]) (fun i σ H' => ∃ v6, σ = [some (.ref p), some (.ref qa), some (.ref far), some (.ref sp), some (.int x3), some (.bl sg), v6] ∧ Src F_402 H' p ∧ Stp (S1 p) F_402 H_402 F_402 H') ⟨_, rfl, s_402, .rfl' s_402.1⟩ (fun i σ H' _ ⟨_, _, s, _⟩ => s.1.seq (SqL.of e_y2)) ?_ ?_
      · rintro i x σ H2 hx ⟨v6, rfl, a2, b2⟩
        obtain ⟨m, rfl, hm⟩ : ∃ m : Int, x = .int m ∧ True := by
          have := List.mem_of_getElem? hx
          simp at this
          rcases this with rfl | rfl | rfl <;> exact ⟨_, rfl, by first | trivial | (simp <;> omega)⟩
        walk_at "r"
        refine ⟨rfl, sg, sp, _, m, _, rfl, a2.1.seq (SqL.of e_sp), thg'' _ a2.1, .bad bad, fun y H3 e3 hy => ?_⟩
        walk_at "r"
        refine ⟨sz (by simp), fun z hz => ?_⟩
        have e4 : Same H3 (upd H3 z (.tup [.str "bits", .bl true, .bl false])) := (Stp.new (S := S0) (Same.refl H3) hz).same
        have f4 : upd H3 z (.tup [.str "bits", .bl true, .bl false]) z = some (.tup [.str "bits", .bl true, .bl false]) := upd_same
        generalize upd H3 z (.tup [.str "bits", .bl true, .bl false]) = H4 at e4 f4 ⊢
        refine s_neTs (SqT.of (e4 _ _ hy)) (SqT.of f4) (by decide +kernel) ?_
        walk_at "r"
        exact ⟨_, rfl, a2.of (e3.trans e4), b2.trans (.ofSame a2.1 (e3.trans e4))⟩
      · rintro σ H5 ⟨v6, rfl, a5, b5⟩
        walk_at "r"
        exact ⟨_, _, rfl, a5.weak t_402.ff, b1.trans ((t_402.trans b5).weak)⟩
  · rintro σ H1 ⟨v5, v6, rfl, a1, b1⟩
    walk_at "r"
    exact q _ _ a1 (t_200.trans b1)
abbrev s_law : Stmt := topS 24
theorem sc_law : FnScope ["_law_script", "_law_k", "_law_source", "_law_bits_here", "_law_kept", "_law_at", "_law_due", "_law_ends"] ["_law_script"] (defScope s_law) := ⟨rfl, rfl, rfl, by decide +kernel, rfl, by decide +kernel, by decide +kernel⟩
def Ok_law (P : Program) (w : World) (K : PySem.W.Frag) (mg : Str → Option Value) (base : Heap) : Prop := ∃ fA fd, Fn P w K mg base (L2.CX P w) 7 "law" s_law fA fd ["_law_script"] (sp_law K mg)
theorem okx_law (Z : Zs K mg) {fA : Addr} {fd : FuncData} (F : Fun K "law" "law" s_law fA fd) (m : mg "law" = some (.ref fA)) (C_read_count : Ok_read_count P w K mg base) (C_law_refused_right : Ok_law_refused_right P w K mg base) (C_law_take : Ok_law_take P w K mg base) (C_law_word : Ok_law_word P w K mg base) (C_law_signed : Ok_law_signed P w K mg base) (C_law_read : Ok_law_read P w K mg base) (C_law_list : Ok_law_list P w K mg base) (C_law_pool : Ok_law_pool P w K mg base) : Fn P w K mg base (L2.CX P w) 7 "law" s_law fA fd ["_law_script"] (sp_law K mg) := by
  obtain ⟨_, _, C_read_count⟩ := C_read_count
  obtain ⟨_, _, C_law_refused_right⟩ := C_law_refused_right
  obtain ⟨_, _, C_law_take⟩ := C_law_take
  obtain ⟨_, _, C_law_word⟩ := C_law_word
  obtain ⟨_, _, C_law_signed⟩ := C_law_signed
  obtain ⟨_, _, C_law_read⟩ := C_law_read
  obtain ⟨_, _, C_law_list⟩ := C_law_list
  obtain ⟨_, _, C_law_pool⟩ := C_law_pool
  refine ⟨F.okX sc_law (fun vs H Q E h => h.1) (fun cdv A outer s H vs Q E hr h => ?_), m, F.kp, F.binds fun _ _ _ _ _ _ us hl => match us, hl with | [_], _ => rfl, F⟩
  have hu64 := hr.units
  obtain ⟨hlen, h⟩ := h
  refine ⟨_, (pss_cons (ps_for (passes_of rfl) rfl (pi_range1 rfl Z.z_range (pa_cons (pe_callB (c_max2 rfl) (by rfl) Z.z_max (by decide +kernel) (pa_cons pe_int (pa_cons (pe_callB (c_min2 rfl) (by rfl) Z.z_min (by decide +kernel) (pa_cons (pe_callB (c_len K rfl) (by rfl) Z.z_len (by decide +kernel) (pa_cons (pv 0) pa_nil)) (pa_cons pe_int pa_nil))) pa_nil))) pa_nil)) (pg_name (i := 1) sc_law.nd rfl (Or.inl rfl))
      (pss_cons (ps_set (i := 2) sc_law.nd rfl (Or.inl rfl) (pe_call C_law_pool.G (hr.mono (by decide)) rfl C_law_pool.m C_law_pool.kp C_law_pool.b .nil passL (pa_cons (pv 0) (pa_cons (pv 1) pa_nil))))
    (pss_cons (ps_set (i := 3) sc_law.nd rfl (Or.inl rfl) (pe_call C_law_list.G (hr.mono (by decide)) rfl C_law_list.m C_law_list.kp C_law_list.b .nil passL (pa_cons (pv 2) pa_nil)))
    (pss_cons (ps_set (i := 4) sc_law.nd rfl (Or.inl rfl) (pe_callTy call_list_of (by rfl) Z.z_list (by decide +kernel) (pa_cons (pv 3) pa_nil)))
    (pss_cons (ps_for (passes_of rfl) rfl (pi_list (pe_lst (pa_cons (pe_call C_law_take.G (hr.mono (by decide)) rfl C_law_take.m C_law_take.kp C_law_take.b .nil passL (pa_cons (pv 2) (pa_cons (pe_op op_add (pe_callB (c_len K rfl) (by rfl) Z.z_len (by decide +kernel) (pa_cons (pv 3) pa_nil)) pe_int) pa_nil))) (pa_cons pe_int (pa_cons (pe_callB (c_len K rfl) (by rfl) Z.z_len (by decide +kernel) (pa_cons (pv 3) pa_nil)) (pa_cons (pe_callB (c_min2 rfl) (by rfl) Z.z_min (by decide +kernel) (pa_cons (pe_callB (c_len K rfl) (by rfl) Z.z_len (by decide +kernel) (pa_cons (pv 3) pa_nil)) (pa_cons (pe_call C_law_take.G (hr.mono (by decide)) rfl C_law_take.m C_law_take.kp C_law_take.b .nil passL (pa_cons (pv 2) (pa_cons pe_int pa_nil))) pa_nil))) pa_nil)))))) (pg_name (i := 5) sc_law.nd rfl (Or.inl rfl))
      (pss_cons (ps_set (i := 6) sc_law.nd rfl (Or.inl rfl) (pe_call C_law_read.G (hr.mono (by decide)) rfl C_law_read.m C_law_read.kp C_law_read.b .nil passL (pa_cons (pv 4) (pa_cons (pv 5) pa_nil))))
    (pss_one (ps_if (PW.pt (pw_or (pt_cmpR (o_neD K rfl hu64) (pe_call C_law_word.G (hr.mono (by decide)) rfl C_law_word.m C_law_word.kp C_law_word.b .nil passL (pa_cons pe_bl (pa_cons (pv 3) (pa_cons (pv 5) pa_nil)))) (pv 6) (nomark _)) (pw_or1 (pt_cmpR (o_neD K rfl hu64) (pe_call C_law_word.G (hr.mono (by decide)) rfl C_law_word.m C_law_word.kp C_law_word.b .nil passL (pa_cons pe_bl (pa_cons (pv 3) (pa_cons (pv 5) pa_nil)))) (pe_call C_law_signed.G (hr.mono (by decide)) rfl C_law_signed.m C_law_signed.kp C_law_signed.b .nil passL (pa_cons (pv 6) pa_nil)) (nomark _)))))
      (pss_one (ps_ret pe_bl))
      pss_nil))))
    (pss_one (ps_if (PW.pt (pw_or (pt_cmpR (o_neD K rfl hu64) (pv 3) (pv 4) (nomark _)) (pw_or1 (pt_not (pt_val (pe_call C_law_refused_right.G (hr.mono (by decide)) rfl C_law_refused_right.m C_law_refused_right.kp C_law_refused_right.b .nil passL (pa_cons (pv 2) (pa_cons (pv 3) pa_nil))))))))
      (pss_one (ps_ret pe_bl))
      pss_nil)))))))
    (pss_cons (ps_set (i := 7) sc_law.nd rfl (Or.inl rfl) (pe_lst (pa_cons (pe_call C_read_count.G (hr.mono (by decide)) rfl C_read_count.m C_read_count.kp C_read_count.b .nil passL (pa_cons (pe_op op_rep (pe_lst (pa_cons pe_int pa_nil)) pe_int) (pa_cons pe_int pa_nil))) (pa_cons (pe_call C_read_count.G (hr.mono (by decide)) rfl C_read_count.m C_read_count.kp C_read_count.b .nil passL (pa_cons (pe_op op_cat (pe_op op_rep (pe_lst (pa_cons pe_int pa_nil)) pe_int) (pe_lst (pa_cons pe_int pa_nil))) (pa_cons pe_int pa_nil))) (pa_cons (pe_call C_read_count.G (hr.mono (by decide)) rfl C_read_count.m C_read_count.kp C_read_count.b .nil passL (pa_cons (pe_op op_cat (pe_op op_rep (pe_lst (pa_cons pe_int pa_nil)) pe_int) (pe_op op_rep (pe_lst (pa_cons pe_int pa_nil)) pe_int)) (pa_cons pe_int pa_nil))) pa_nil)))))
    (pss_one (ps_ret (pe_cmpR (o_eqD K rfl hu64) (pv 7) (pe_lst (pa_cons (pe_tup (pa_cons pe_str pa_nil)) (pa_cons (pe_tup (pa_cons pe_str pa_nil)) (pa_cons (pe_tup (pa_cons pe_str (pa_cons (pe_op op_sub (pe_op op_pow pe_int pe_int) pe_int) (pa_cons pe_int pa_nil)))) pa_nil)))) (nomark _)))))), ?_⟩
  obtain ⟨sc, ns, rfl, hS, hl, q⟩ := h
  walk_at "r"
  refine ⟨_, rfl, by split <;> omega, by split <;> omega, ?_⟩
  refine forR (fun i σ H' => ∃ v1 v2 v3 v4 v5 v6 v7, σ = [some (.ref sc), v1, v2, v3, v4, v5, v6, v7] ∧ Same H H') ⟨_, _, _, _, _, _, _, rfl, Same.refl H⟩ ?_ ?_
  · rintro i σ H1 hi ⟨v1, v2, v3, v4, v5, v6, v7, rfl, e1⟩
    walk_at "r"
    refine ⟨rfl, sc, ns, _, rfl, e1.seq hS, by omega, ?_, fun p H2 s2 => ?_⟩
    · have : i < 21 := Nat.lt_of_lt_of_le hi (by split <;> omega)
      omega
    walk_at "r"
    refine ⟨rfl, H1, p, rfl, s2, fun qa bs F3 H3 s3 t3 e_qa bA lA => ?_⟩
    walk_at "r"
    refine ⟨qa, _, rfl, .inl (SqL.of (s3.1 _ _ e_qa)), fun l hl => ?_⟩
    have s_100 := s3.new (o := .lst (bs.map V.int)) hl
    have g_100 := Stp.new (S := S1 p) (o := .lst (bs.map V.int)) s3.1 hl
    have t_100 := t3.trans g_100
    have f_100 := g_100.ff
    have e_l : upd F3 l (.lst (bs.map V.int)) l = some (.lst (bs.map V.int)) := upd_same
    clear g_100
    generalize upd F3 l (.lst (bs.map V.int)) = F_100 at s_100 t_100 f_100 e_l
    generalize upd H3 l (.lst (bs.map V.int)) = H_100 at s_100 t_100 ⊢
    replace e_qa := f_100 _ _ e_qa
    walk_at "r"
    refine s_len (SqL.of (s_100.1 _ _ e_qa)) ?_
    walk_at "r"
    refine ⟨rfl, F_100, p, _, rfl, s_100, by simp <;> omega, by simp <;> omega, fun x1 H_101 s_101 u_101 x10 x11 => ?_⟩
    have t_101 := t_100.trans u_101
    walk_at "r"
    refine s_len (SqL.of (s_101.1 _ _ e_qa)) ?_
    walk_at "r"
    refine s_len (SqL.of (s_101.1 _ _ e_qa)) ?_
    walk_at "r"
    refine ⟨rfl, F_100, p, _, rfl, s_101, by decide, by decide, fun x2 H_102 s_102 u_102 x20 x21 => ?_⟩
    have t_102 := t_101.trans u_102
    walk_at "r"
    refine ⟨sz (by simp), fun w hw => ?_⟩
    have s_103 := s_102.new (o := .lst [.int x1, .int 0, .int (bs.map V.int).length, .int (if x2 < ((bs.map V.int).length : Int) then x2 else ((bs.map V.int).length : Int))]) hw
    have g_103 := Stp.new (S := S1 p) (o := .lst [.int x1, .int 0, .int (bs.map V.int).length, .int (if x2 < ((bs.map V.int).length : Int) then x2 else ((bs.map V.int).length : Int))]) s_102.1 hw
    have t_103 := t_102.trans g_103
    have f_103 := g_103.ff
    have e_w : upd F_100 w (.lst [.int x1, .int 0, .int (bs.map V.int).length, .int (if x2 < ((bs.map V.int).length : Int) then x2 else ((bs.map V.int).length : Int))]) w = some (.lst [.int x1, .int 0, .int (bs.map V.int).length, .int (if x2 < ((bs.map V.int).length : Int) then x2 else ((bs.map V.int).length : Int))]) := upd_same
    clear g_103
    generalize upd F_100 w (.lst [.int x1, .int 0, .int (bs.map V.int).length, .int (if x2 < ((bs.map V.int).length : Int) then x2 else ((bs.map V.int).length : Int))]) = F_103 at s_103 t_103 f_103 e_w
    generalize upd H_102 w (.lst [.int x1, .int 0, .int (bs.map V.int).length, .int (if x2 < ((bs.map V.int).length : Int) then x2 else ((bs.map V.int).length : Int))]) = H_103 at s_103 t_103 ⊢
    replace e_qa := f_103 _ _ e_qa
    replace e_l := f_103 _ _ e_l
    walk_at "r"
    refine ⟨_, rfl, ⟨_, s_103.1.seq (SqL.of e_w)⟩, ?_⟩
    refine forL (xs := [.int x1, .int 0, .int (bs.map V.int).length, .int (if x2 < ((bs.map V.int).length : Int) then x2 else ((bs.map V.int).length : Int))]) (fun j σ H' => ∃ va vd, σ = [some (.ref sc), some (.int (0 + (i : Int))), some (.ref p), some (.ref qa), some (.ref l), va, vd, v7] ∧ Src F_103 H' p ∧ Same H_103 H') ⟨_, _, rfl, s_103, Same.refl _⟩ (fun j σ H' _ ⟨_, _, _, s, _⟩ => s.1.seq (SqL.of e_w)) ?_ ?_
    · rintro j x σ H7 hx ⟨va, vd, rfl, s7, e7⟩
      obtain ⟨m, rfl, hm⟩ : ∃ m : Nat, x = .int m ∧ m ≤ bs.length := by
        have := List.mem_of_getElem? hx
        simp at this
        simp at x11
        rcases this with rfl | rfl | rfl | rfl
        · exact ⟨x1.toNat, by rw [Int.toNat_of_nonneg x10], by omega⟩
        · exact ⟨0, rfl, by omega⟩
        · exact ⟨bs.length, rfl, by omega⟩
        · split
          · exact ⟨x2.toNat, by rw [Int.toNat_of_nonneg x20], by omega⟩
          · exact ⟨bs.length, rfl, by omega⟩
      walk_at "r"
      refine ⟨rfl, l, bs, m, rfl, SqL.of (s7.1 _ _ e_l), hm, by omega, fun d H8 e8 _ hd => ?_⟩
      have s8 := s7.of e8
      walk_at "r"
      refine ⟨rfl, false, qa, _, (m : Int), _, rfl, SqL.of (s8.1 _ _ e_qa), thg_ints _ bs, .rd bA hm (by omega), fun y H9 e9 hy => ?_⟩
      have s9 := s8.of e9
      rw [if_neg (by decide)] at hy
      walk_at "r"
      refine s_neTs (SqT.of hy) (SqT.of (e9 _ _ hd)) (cntR_flat bs m) ?_
      walk_at "r"
      refine ⟨rfl, true, qa, _, (m : Int), _, rfl, SqL.of (s9.1 _ _ e_qa), thg_ints _ bs, .rd bA hm (by omega), fun z H10 e10 hz => ?_⟩
      have s10 := s9.of e10
      rw [if_pos rfl] at hz
      walk_at "r"
      refine ⟨rfl, d, bs, m, rfl, e10 _ _ (e9 _ _ hd), fun u H11 e11 hu => ?_⟩
      walk_at "r"
      refine s_neTs (SqT.of (e11 _ _ hz)) (SqT.of hu) (sgR_flat (cntR_flat bs m)) ?_
      walk_at "r"
      exact ⟨_, _, rfl, s10.of e11, e7.trans (e8.trans (e9.trans (e10.trans e11)))⟩
    · rintro σ H7 ⟨va, vd, rfl, s7, e7⟩
      walk_at "r"
      refine s_neL (SqL.of (s7.1 _ _ e_qa)) (SqL.of (s7.1 _ _ e_l)) ?_
      walk_at "r"
      refine ifn (fun _ => ?_) (fun h => absurd rfl h)
      walk_at "r"
      refine ⟨rfl, F_103, p, qa, bs, rfl, s7, e_qa, bA, lA, fun F8 H8 s8 t8 => ?_⟩
      walk_at "r"
      exact ⟨_, _, _, _, _, _, _, rfl, e1.trans (t3.ff.trans (f_100.trans (f_103.trans (t8.ff.trans s8.1))))⟩
  · rintro σ H1 ⟨v1, v2, v3, v4, v5, v6, v7, rfl, e1⟩
    walk_at "r"
    refine ⟨sz (by simp), fun a ha => ?_⟩
    have g_1 : Same H1 (upd H1 a (.lst [.int 0])) := (Stp.new (S := S0) (Same.refl _) ha).same
    have e_a : upd H1 a (.lst [.int 0]) a = some (.lst [.int 0]) := upd_same
    generalize upd H1 a (.lst [.int 0]) = H_1 at g_1 e_a ⊢
    walk_at "r"
    refine s_rep e_a (by decide) (by decide) fun b hb => ?_
    have g_2 : Same H_1 (upd H_1 b (.lst (List.replicate (41 : Int).toNat (V.int 0)))) := (Stp.new (S := S0) (Same.refl _) hb).same
    have e_b : upd H_1 b (.lst (List.replicate (41 : Int).toNat (V.int 0))) b = some (.lst (List.replicate (41 : Int).toNat (V.int 0))) := upd_same
    generalize upd H_1 b (.lst (List.replicate (41 : Int).toNat (V.int 0))) = H_2 at g_2 e_b ⊢
    replace e_a := g_2 _ _ e_a
    walk_at "r"
    refine ⟨rfl, b, ((List.replicate 41 0 : List Int)).map V.int, 0, rfl, SqL.of (by rw [e_b]; simp), thg_ints _ ((List.replicate 41 0 : List Int)), .inr (.inr ⟨(List.replicate 41 0 : List Int), 0, rfl, by intro x hx; simp [isBit] at hx ⊢; omega, rfl, Nat.zero_le _, by decide, fun r1 H_3 g_3 _ e_r1 => ?_⟩)⟩
    replace e_a := g_3 _ _ e_a
    replace e_b := g_3 _ _ e_b
    rw [show cntR ((List.replicate 41 0 : List Int)) 0 = [.str "long"] by decide +kernel] at e_r1
    walk_at "r"
    refine ⟨sz (by simp), fun c hc => ?_⟩
    have g_4 : Same H_3 (upd H_3 c (.lst [.int 0])) := (Stp.new (S := S0) (Same.refl _) hc).same
    have e_c : upd H_3 c (.lst [.int 0]) c = some (.lst [.int 0]) := upd_same
    generalize upd H_3 c (.lst [.int 0]) = H_4 at g_4 e_c ⊢
    replace e_a := g_4 _ _ e_a
    replace e_b := g_4 _ _ e_b
    replace e_r1 := g_4 _ _ e_r1
    walk_at "r"
    refine s_rep e_c (by decide) (by decide) fun d hd => ?_
    have g_5 : Same H_4 (upd H_4 d (.lst (List.replicate (41 : Int).toNat (V.int 0)))) := (Stp.new (S := S0) (Same.refl _) hd).same
    have e_d : upd H_4 d (.lst (List.replicate (41 : Int).toNat (V.int 0))) d = some (.lst (List.replicate (41 : Int).toNat (V.int 0))) := upd_same
    generalize upd H_4 d (.lst (List.replicate (41 : Int).toNat (V.int 0))) = H_5 at g_5 e_d ⊢
    replace e_a := g_5 _ _ e_a
    replace e_b := g_5 _ _ e_b
    replace e_r1 := g_5 _ _ e_r1
    replace e_c := g_5 _ _ e_c
    walk_at "r"
    refine ⟨sz (by simp), fun e he => ?_⟩
    have g_6 : Same H_5 (upd H_5 e (.lst [.int 1])) := (Stp.new (S := S0) (Same.refl _) he).same
    have e_e : upd H_5 e (.lst [.int 1]) e = some (.lst [.int 1]) := upd_same
    generalize upd H_5 e (.lst [.int 1]) = H_6 at g_6 e_e ⊢
    replace e_a := g_6 _ _ e_a
    replace e_b := g_6 _ _ e_b
    replace e_r1 := g_6 _ _ e_r1
    replace e_c := g_6 _ _ e_c
    replace e_d := g_6 _ _ e_d
    walk_at "r"
    refine ⟨_, _, _, _, rfl, rfl, e_d, e_e, sz (by decide), fun f hf => ?_⟩
    have g_7 : Same H_6 (upd H_6 f (.lst (List.replicate (41 : Int).toNat (V.int 0) ++ [.int 1]))) := (Stp.new (S := S0) (Same.refl _) hf).same
    have e_f : upd H_6 f (.lst (List.replicate (41 : Int).toNat (V.int 0) ++ [.int 1])) f = some (.lst (List.replicate (41 : Int).toNat (V.int 0) ++ [.int 1])) := upd_same
    generalize upd H_6 f (.lst (List.replicate (41 : Int).toNat (V.int 0) ++ [.int 1])) = H_7 at g_7 e_f ⊢
    replace e_a := g_7 _ _ e_a
    replace e_b := g_7 _ _ e_b
    replace e_r1 := g_7 _ _ e_r1
    replace e_c := g_7 _ _ e_c
    replace e_d := g_7 _ _ e_d
    replace e_e := g_7 _ _ e_e
    walk_at "r"
    refine ⟨rfl, f, ((List.replicate 41 0 ++ [1] : List Int)).map V.int, 0, rfl, SqL.of (by rw [e_f]; simp), thg_ints _ ((List.replicate 41 0 ++ [1] : List Int)), .inr (.inr ⟨(List.replicate 41 0 ++ [1] : List Int), 0, rfl, by intro x hx; simp [isBit] at hx ⊢; omega, rfl, Nat.zero_le _, by decide, fun r2 H_8 g_8 _ e_r2 => ?_⟩)⟩
    replace e_a := g_8 _ _ e_a
    replace e_b := g_8 _ _ e_b
    replace e_r1 := g_8 _ _ e_r1
    replace e_c := g_8 _ _ e_c
    replace e_d := g_8 _ _ e_d
    replace e_e := g_8 _ _ e_e
    replace e_f := g_8 _ _ e_f
    rw [show cntR ((List.replicate 41 0 ++ [1] : List Int)) 0 = [.str "long"] by decide +kernel] at e_r2
    walk_at "r"
    refine ⟨sz (by simp), fun g hg => ?_⟩
    have g_9 : Same H_8 (upd H_8 g (.lst [.int 0])) := (Stp.new (S := S0) (Same.refl _) hg).same
    have e_g : upd H_8 g (.lst [.int 0]) g = some (.lst [.int 0]) := upd_same
    generalize upd H_8 g (.lst [.int 0]) = H_9 at g_9 e_g ⊢
    replace e_a := g_9 _ _ e_a
    replace e_b := g_9 _ _ e_b
    replace e_r1 := g_9 _ _ e_r1
    replace e_c := g_9 _ _ e_c
    replace e_d := g_9 _ _ e_d
    replace e_e := g_9 _ _ e_e
    replace e_f := g_9 _ _ e_f
    replace e_r2 := g_9 _ _ e_r2
    walk_at "r"
    refine s_rep e_g (by decide) (by decide) fun k hk => ?_
    have g_10 : Same H_9 (upd H_9 k (.lst (List.replicate (40 : Int).toNat (V.int 0)))) := (Stp.new (S := S0) (Same.refl _) hk).same
    have e_k : upd H_9 k (.lst (List.replicate (40 : Int).toNat (V.int 0))) k = some (.lst (List.replicate (40 : Int).toNat (V.int 0))) := upd_same
    generalize upd H_9 k (.lst (List.replicate (40 : Int).toNat (V.int 0))) = H_10 at g_10 e_k ⊢
    replace e_a := g_10 _ _ e_a
    replace e_b := g_10 _ _ e_b
    replace e_r1 := g_10 _ _ e_r1
    replace e_c := g_10 _ _ e_c
    replace e_d := g_10 _ _ e_d
    replace e_e := g_10 _ _ e_e
    replace e_f := g_10 _ _ e_f
    replace e_r2 := g_10 _ _ e_r2
    replace e_g := g_10 _ _ e_g
    walk_at "r"
    refine ⟨sz (by simp), fun l hl => ?_⟩
    have g_11 : Same H_10 (upd H_10 l (.lst [.int 1])) := (Stp.new (S := S0) (Same.refl _) hl).same
    have e_l : upd H_10 l (.lst [.int 1]) l = some (.lst [.int 1]) := upd_same
    generalize upd H_10 l (.lst [.int 1]) = H_11 at g_11 e_l ⊢
    replace e_a := g_11 _ _ e_a
    replace e_b := g_11 _ _ e_b
    replace e_r1 := g_11 _ _ e_r1
    replace e_c := g_11 _ _ e_c
    replace e_d := g_11 _ _ e_d
    replace e_e := g_11 _ _ e_e
    replace e_f := g_11 _ _ e_f
    replace e_r2 := g_11 _ _ e_r2
    replace e_g := g_11 _ _ e_g
    replace e_k := g_11 _ _ e_k
    walk_at "r"
    refine s_rep e_l (by decide) (by decide) fun m hm => ?_
    have g_12 : Same H_11 (upd H_11 m (.lst (List.replicate (41 : Int).toNat (V.int 1)))) := (Stp.new (S := S0) (Same.refl _) hm).same
    have e_m : upd H_11 m (.lst (List.replicate (41 : Int).toNat (V.int 1))) m = some (.lst (List.replicate (41 : Int).toNat (V.int 1))) := upd_same
    generalize upd H_11 m (.lst (List.replicate (41 : Int).toNat (V.int 1))) = H_12 at g_12 e_m ⊢
    replace e_a := g_12 _ _ e_a
    replace e_b := g_12 _ _ e_b
    replace e_r1 := g_12 _ _ e_r1
    replace e_c := g_12 _ _ e_c
    replace e_d := g_12 _ _ e_d
    replace e_e := g_12 _ _ e_e
    replace e_f := g_12 _ _ e_f
    replace e_r2 := g_12 _ _ e_r2
    replace e_g := g_12 _ _ e_g
    replace e_k := g_12 _ _ e_k
    replace e_l := g_12 _ _ e_l
    walk_at "r"
    refine ⟨_, _, _, _, rfl, rfl, e_k, e_m, sz (by decide), fun n hn => ?_⟩
    have g_13 : Same H_12 (upd H_12 n (.lst (List.replicate (40 : Int).toNat (V.int 0) ++ List.replicate (41 : Int).toNat (V.int 1)))) := (Stp.new (S := S0) (Same.refl _) hn).same
    have e_n : upd H_12 n (.lst (List.replicate (40 : Int).toNat (V.int 0) ++ List.replicate (41 : Int).toNat (V.int 1))) n = some (.lst (List.replicate (40 : Int).toNat (V.int 0) ++ List.replicate (41 : Int).toNat (V.int 1))) := upd_same
    generalize upd H_12 n (.lst (List.replicate (40 : Int).toNat (V.int 0) ++ List.replicate (41 : Int).toNat (V.int 1))) = H_13 at g_13 e_n ⊢
    replace e_a := g_13 _ _ e_a
    replace e_b := g_13 _ _ e_b
    replace e_r1 := g_13 _ _ e_r1
    replace e_c := g_13 _ _ e_c
    replace e_d := g_13 _ _ e_d
    replace e_e := g_13 _ _ e_e
    replace e_f := g_13 _ _ e_f
    replace e_r2 := g_13 _ _ e_r2
    replace e_g := g_13 _ _ e_g
    replace e_k := g_13 _ _ e_k
    replace e_l := g_13 _ _ e_l
    replace e_m := g_13 _ _ e_m
    walk_at "r"
    refine ⟨rfl, n, ((List.replicate 40 0 ++ List.replicate 41 1 : List Int)).map V.int, 0, rfl, SqL.of (by rw [e_n]; simp), thg_ints _ ((List.replicate 40 0 ++ List.replicate 41 1 : List Int)), .inr (.inr ⟨(List.replicate 40 0 ++ List.replicate 41 1 : List Int), 0, rfl, by intro x hx; simp [isBit] at hx ⊢; omega, rfl, Nat.zero_le _, by decide, fun r3 H_14 g_14 _ e_r3 => ?_⟩)⟩
    replace e_a := g_14 _ _ e_a
    replace e_b := g_14 _ _ e_b
    replace e_r1 := g_14 _ _ e_r1
    replace e_c := g_14 _ _ e_c
    replace e_d := g_14 _ _ e_d
    replace e_e := g_14 _ _ e_e
    replace e_f := g_14 _ _ e_f
    replace e_r2 := g_14 _ _ e_r2
    replace e_g := g_14 _ _ e_g
    replace e_k := g_14 _ _ e_k
    replace e_l := g_14 _ _ e_l
    replace e_m := g_14 _ _ e_m
    replace e_n := g_14 _ _ e_n
    rw [show cntR ((List.replicate 40 0 ++ List.replicate 41 1 : List Int)) 0 = [.str "read", .int 2199023255550, .int 81] by decide +kernel] at e_r3
    walk_at "r"
    refine ⟨sz (by simp), fun u hu => ?_⟩
    have g_15 : Same H_14 (upd H_14 u (.lst [.ref r1, .ref r2, .ref r3])) := (Stp.new (S := S0) (Same.refl _) hu).same
    have e_u : upd H_14 u (.lst [.ref r1, .ref r2, .ref r3]) u = some (.lst [.ref r1, .ref r2, .ref r3]) := upd_same
    generalize upd H_14 u (.lst [.ref r1, .ref r2, .ref r3]) = H_15 at g_15 e_u ⊢
    replace e_a := g_15 _ _ e_a
    replace e_b := g_15 _ _ e_b
    replace e_r1 := g_15 _ _ e_r1
    replace e_c := g_15 _ _ e_c
    replace e_d := g_15 _ _ e_d
    replace e_e := g_15 _ _ e_e
    replace e_f := g_15 _ _ e_f
    replace e_r2 := g_15 _ _ e_r2
    replace e_g := g_15 _ _ e_g
    replace e_k := g_15 _ _ e_k
    replace e_l := g_15 _ _ e_l
    replace e_m := g_15 _ _ e_m
    replace e_n := g_15 _ _ e_n
    replace e_r3 := g_15 _ _ e_r3
    walk_at "r"
    refine ⟨sz (by simp), fun t1 ht1 => ?_⟩
    have g_16 : Same H_15 (upd H_15 t1 (.tup [.str "long"])) := (Stp.new (S := S0) (Same.refl _) ht1).same
    have e_t1 : upd H_15 t1 (.tup [.str "long"]) t1 = some (.tup [.str "long"]) := upd_same
    generalize upd H_15 t1 (.tup [.str "long"]) = H_16 at g_16 e_t1 ⊢
    replace e_a := g_16 _ _ e_a
    replace e_b := g_16 _ _ e_b
    replace e_r1 := g_16 _ _ e_r1
    replace e_c := g_16 _ _ e_c
    replace e_d := g_16 _ _ e_d
    replace e_e := g_16 _ _ e_e
    replace e_f := g_16 _ _ e_f
    replace e_r2 := g_16 _ _ e_r2
    replace e_g := g_16 _ _ e_g
    replace e_k := g_16 _ _ e_k
    replace e_l := g_16 _ _ e_l
    replace e_m := g_16 _ _ e_m
    replace e_n := g_16 _ _ e_n
    replace e_r3 := g_16 _ _ e_r3
    replace e_u := g_16 _ _ e_u
    walk_at "r"
    refine ⟨sz (by simp), fun t2 ht2 => ?_⟩
    have g_17 : Same H_16 (upd H_16 t2 (.tup [.str "long"])) := (Stp.new (S := S0) (Same.refl _) ht2).same
    have e_t2 : upd H_16 t2 (.tup [.str "long"]) t2 = some (.tup [.str "long"]) := upd_same
    generalize upd H_16 t2 (.tup [.str "long"]) = H_17 at g_17 e_t2 ⊢
    replace e_a := g_17 _ _ e_a
    replace e_b := g_17 _ _ e_b
    replace e_r1 := g_17 _ _ e_r1
    replace e_c := g_17 _ _ e_c
    replace e_d := g_17 _ _ e_d
    replace e_e := g_17 _ _ e_e
    replace e_f := g_17 _ _ e_f
    replace e_r2 := g_17 _ _ e_r2
    replace e_g := g_17 _ _ e_g
    replace e_k := g_17 _ _ e_k
    replace e_l := g_17 _ _ e_l
    replace e_m := g_17 _ _ e_m
    replace e_n := g_17 _ _ e_n
    replace e_r3 := g_17 _ _ e_r3
    replace e_u := g_17 _ _ e_u
    replace e_t1 := g_17 _ _ e_t1
    walk_at "r"
    refine ⟨sz (by simp), fun t3 ht3 => ?_⟩
    have g_18 : Same H_17 (upd H_17 t3 (.tup [.str "read", .int (2 ^ Int.toNat 41 - 2), .int 81])) := (Stp.new (S := S0) (Same.refl _) ht3).same
    have e_t3 : upd H_17 t3 (.tup [.str "read", .int (2 ^ Int.toNat 41 - 2), .int 81]) t3 = some (.tup [.str "read", .int (2 ^ Int.toNat 41 - 2), .int 81]) := upd_same
    generalize upd H_17 t3 (.tup [.str "read", .int (2 ^ Int.toNat 41 - 2), .int 81]) = H_18 at g_18 e_t3 ⊢
    replace e_a := g_18 _ _ e_a
    replace e_b := g_18 _ _ e_b
    replace e_r1 := g_18 _ _ e_r1
    replace e_c := g_18 _ _ e_c
    replace e_d := g_18 _ _ e_d
    replace e_e := g_18 _ _ e_e
    replace e_f := g_18 _ _ e_f
    replace e_r2 := g_18 _ _ e_r2
    replace e_g := g_18 _ _ e_g
    replace e_k := g_18 _ _ e_k
    replace e_l := g_18 _ _ e_l
    replace e_m := g_18 _ _ e_m
    replace e_n := g_18 _ _ e_n
    replace e_r3 := g_18 _ _ e_r3
    replace e_u := g_18 _ _ e_u
    replace e_t1 := g_18 _ _ e_t1
    replace e_t2 := g_18 _ _ e_t2
    rw [show (2 : Int) ^ Int.toNat 41 - 2 = 2199023255550 by decide] at e_t3
    walk_at "r"
    refine ⟨sz (by simp), fun w hw => ?_⟩
    have g_19 : Same H_18 (upd H_18 w (.lst [.ref t1, .ref t2, .ref t3])) := (Stp.new (S := S0) (Same.refl _) hw).same
    have e_w : upd H_18 w (.lst [.ref t1, .ref t2, .ref t3]) w = some (.lst [.ref t1, .ref t2, .ref t3]) := upd_same
    generalize upd H_18 w (.lst [.ref t1, .ref t2, .ref t3]) = H_19 at g_19 e_w ⊢
    replace e_a := g_19 _ _ e_a
    replace e_b := g_19 _ _ e_b
    replace e_r1 := g_19 _ _ e_r1
    replace e_c := g_19 _ _ e_c
    replace e_d := g_19 _ _ e_d
    replace e_e := g_19 _ _ e_e
    replace e_f := g_19 _ _ e_f
    replace e_r2 := g_19 _ _ e_r2
    replace e_g := g_19 _ _ e_g
    replace e_k := g_19 _ _ e_k
    replace e_l := g_19 _ _ e_l
    replace e_m := g_19 _ _ e_m
    replace e_n := g_19 _ _ e_n
    replace e_r3 := g_19 _ _ e_r3
    replace e_u := g_19 _ _ e_u
    replace e_t1 := g_19 _ _ e_t1
    replace e_t2 := g_19 _ _ e_t2
    replace e_t3 := g_19 _ _ e_t3
    walk_at "r"
    refine s_eqTups (ls := [[.str "long"], [.str "long"], [.str "read", .int 2199023255550, .int 81]]) (SqL.of e_u) (SqL.of e_w) (.cons ⟨_, rfl, SqT.of e_r1, by decide +kernel⟩ (.cons ⟨_, rfl, SqT.of e_r2, by decide +kernel⟩ (.cons ⟨_, rfl, SqT.of e_r3, by decide +kernel⟩ .nil)))
      (.cons ⟨_, rfl, SqT.of e_t1, by decide +kernel⟩ (.cons ⟨_, rfl, SqT.of e_t2, by decide +kernel⟩ (.cons ⟨_, rfl, SqT.of e_t3, by decide +kernel⟩ .nil))) ?_
    exact q _
end
theorem all_mk {l : PySem.W.OpenLaw} {w : World} {K : PySem.W.Frag} {h : Heap} {mg : Str → Option Value} {fa : Addr} (X : K.In h) (G : h.Ns mainGlobals mg) (hfa : mg "law" = some (.ref fa))
    {f0 : Addr} {od0 an0 : Option Addr} {sl0 : Array (Option Value)} {oc0 kV0 dc0 pm0 cd0 ct0 : Value}
    (a0 : PySem.W.nsIn K mainGlobals "is_bit" = some (some (.ref f0))) (l0 : K.lookup f0 = some ⟨oc0, od0, .func (PySem.W.fnOf "is_bit" "is_bit" (defArgs s_is_bit) (defBody s_is_bit) (defScope s_is_bit) .none kV0 dc0 pm0 an0 cd0 ct0), sl0⟩) (c0 : PySem.W.codeIn K cd0 "is_bit" = true) (k0 : PySem.W.keepIn K (.ref f0) = true)
    {f1 : Addr} {od1 an1 : Option Addr} {sl1 : Array (Option Value)} {oc1 kV1 dc1 pm1 cd1 ct1 : Value}
    (a1 : PySem.W.nsIn K mainGlobals "check_bits" = some (some (.ref f1))) (l1 : K.lookup f1 = some ⟨oc1, od1, .func (PySem.W.fnOf "check_bits" "check_bits" (defArgs s_check_bits) (defBody s_check_bits) (defScope s_check_bits) .none kV1 dc1 pm1 an1 cd1 ct1), sl1⟩) (c1 : PySem.W.codeIn K cd1 "check_bits" = true) (k1 : PySem.W.keepIn K (.ref f1) = true)
    {f2 : Addr} {od2 an2 : Option Addr} {sl2 : Array (Option Value)} {oc2 kV2 dc2 pm2 cd2 ct2 : Value}
    (a2 : PySem.W.nsIn K mainGlobals "number_of" = some (some (.ref f2))) (l2 : K.lookup f2 = some ⟨oc2, od2, .func (PySem.W.fnOf "number_of" "number_of" (defArgs s_number_of) (defBody s_number_of) (defScope s_number_of) .none kV2 dc2 pm2 an2 cd2 ct2), sl2⟩) (c2 : PySem.W.codeIn K cd2 "number_of" = true) (k2 : PySem.W.keepIn K (.ref f2) = true)
    {f3 : Addr} {od3 an3 : Option Addr} {sl3 : Array (Option Value)} {oc3 kV3 dc3 pm3 cd3 ct3 : Value}
    (a3 : PySem.W.nsIn K mainGlobals "count_at" = some (some (.ref f3))) (l3 : K.lookup f3 = some ⟨oc3, od3, .func (PySem.W.fnOf "count_at" "count_at" (defArgs s_count_at) (defBody s_count_at) (defScope s_count_at) .none kV3 dc3 pm3 an3 cd3 ct3), sl3⟩) (c3 : PySem.W.codeIn K cd3 "count_at" = true) (k3 : PySem.W.keepIn K (.ref f3) = true)
    {f4 : Addr} {od4 an4 : Option Addr} {sl4 : Array (Option Value)} {oc4 kV4 dc4 pm4 cd4 ct4 : Value}
    (a4 : PySem.W.nsIn K mainGlobals "signed_at" = some (some (.ref f4))) (l4 : K.lookup f4 = some ⟨oc4, od4, .func (PySem.W.fnOf "signed_at" "signed_at" (defArgs s_signed_at) (defBody s_signed_at) (defScope s_signed_at) .none kV4 dc4 pm4 an4 cd4 ct4), sl4⟩) (c4 : PySem.W.codeIn K cd4 "signed_at" = true) (k4 : PySem.W.keepIn K (.ref f4) = true)
    {f5 : Addr} {od5 an5 : Option Addr} {sl5 : Array (Option Value)} {oc5 kV5 dc5 pm5 cd5 ct5 : Value}
    (a5 : PySem.W.nsIn K mainGlobals "check_place" = some (some (.ref f5))) (l5 : K.lookup f5 = some ⟨oc5, od5, .func (PySem.W.fnOf "check_place" "check_place" (defArgs s_check_place) (defBody s_check_place) (defScope s_check_place) .none kV5 dc5 pm5 an5 cd5 ct5), sl5⟩) (c5 : PySem.W.codeIn K cd5 "check_place" = true) (k5 : PySem.W.keepIn K (.ref f5) = true)
    {f6 : Addr} {od6 an6 : Option Addr} {sl6 : Array (Option Value)} {oc6 kV6 dc6 pm6 cd6 ct6 : Value}
    (a6 : PySem.W.nsIn K mainGlobals "read_count" = some (some (.ref f6))) (l6 : K.lookup f6 = some ⟨oc6, od6, .func (PySem.W.fnOf "read_count" "read_count" (defArgs s_read_count) (defBody s_read_count) (defScope s_read_count) .none kV6 dc6 pm6 an6 cd6 ct6), sl6⟩) (c6 : PySem.W.codeIn K cd6 "read_count" = true) (k6 : PySem.W.keepIn K (.ref f6) = true)
    {f7 : Addr} {od7 an7 : Option Addr} {sl7 : Array (Option Value)} {oc7 kV7 dc7 pm7 cd7 ct7 : Value}
    (a7 : PySem.W.nsIn K mainGlobals "read_signed" = some (some (.ref f7))) (l7 : K.lookup f7 = some ⟨oc7, od7, .func (PySem.W.fnOf "read_signed" "read_signed" (defArgs s_read_signed) (defBody s_read_signed) (defScope s_read_signed) .none kV7 dc7 pm7 an7 cd7 ct7), sl7⟩) (c7 : PySem.W.codeIn K cd7 "read_signed" = true) (k7 : PySem.W.keepIn K (.ref f7) = true)
    {f8 : Addr} {od8 an8 : Option Addr} {sl8 : Array (Option Value)} {oc8 kV8 dc8 pm8 cd8 ct8 : Value}
    (a8 : PySem.W.nsIn K mainGlobals "_law_pool" = some (some (.ref f8))) (l8 : K.lookup f8 = some ⟨oc8, od8, .func (PySem.W.fnOf "_law_pool" "_law_pool" (defArgs s_law_pool) (defBody s_law_pool) (defScope s_law_pool) .none kV8 dc8 pm8 an8 cd8 ct8), sl8⟩) (c8 : PySem.W.codeIn K cd8 "_law_pool" = true) (k8 : PySem.W.keepIn K (.ref f8) = true)
    {f9 : Addr} {od9 an9 : Option Addr} {sl9 : Array (Option Value)} {oc9 kV9 dc9 pm9 cd9 ct9 : Value}
    (a9 : PySem.W.nsIn K mainGlobals "_law_take" = some (some (.ref f9))) (l9 : K.lookup f9 = some ⟨oc9, od9, .func (PySem.W.fnOf "_law_take" "_law_take" (defArgs s_law_take) (defBody s_law_take) (defScope s_law_take) .none kV9 dc9 pm9 an9 cd9 ct9), sl9⟩) (c9 : PySem.W.codeIn K cd9 "_law_take" = true) (k9 : PySem.W.keepIn K (.ref f9) = true)
    {f10 : Addr} {od10 an10 : Option Addr} {sl10 : Array (Option Value)} {oc10 kV10 dc10 pm10 cd10 ct10 : Value}
    (a10 : PySem.W.nsIn K mainGlobals "_law_one" = some (some (.ref f10))) (l10 : K.lookup f10 = some ⟨oc10, od10, .func (PySem.W.fnOf "_law_one" "_law_one" (defArgs s_law_one) (defBody s_law_one) (defScope s_law_one) .none kV10 dc10 pm10 an10 cd10 ct10), sl10⟩) (c10 : PySem.W.codeIn K cd10 "_law_one" = true) (k10 : PySem.W.keepIn K (.ref f10) = true)
    {f11 : Addr} {od11 an11 : Option Addr} {sl11 : Array (Option Value)} {oc11 kV11 dc11 pm11 cd11 ct11 : Value}
    (a11 : PySem.W.nsIn K mainGlobals "_law_bits" = some (some (.ref f11))) (l11 : K.lookup f11 = some ⟨oc11, od11, .func (PySem.W.fnOf "_law_bits" "_law_bits" (defArgs s_law_bits) (defBody s_law_bits) (defScope s_law_bits) .none kV11 dc11 pm11 an11 cd11 ct11), sl11⟩) (c11 : PySem.W.codeIn K cd11 "_law_bits" = true) (k11 : PySem.W.keepIn K (.ref f11) = true)
    {f12 : Addr} {od12 an12 : Option Addr} {sl12 : Array (Option Value)} {oc12 kV12 dc12 pm12 cd12 ct12 : Value}
    (a12 : PySem.W.nsIn K mainGlobals "_law_list" = some (some (.ref f12))) (l12 : K.lookup f12 = some ⟨oc12, od12, .func (PySem.W.fnOf "_law_list" "_law_list" (defArgs s_law_list) (defBody s_law_list) (defScope s_law_list) .none kV12 dc12 pm12 an12 cd12 ct12), sl12⟩) (c12 : PySem.W.codeIn K cd12 "_law_list" = true) (k12 : PySem.W.keepIn K (.ref f12) = true)
    {f13 : Addr} {od13 an13 : Option Addr} {sl13 : Array (Option Value)} {oc13 kV13 dc13 pm13 cd13 ct13 : Value}
    (a13 : PySem.W.nsIn K mainGlobals "_law_read" = some (some (.ref f13))) (l13 : K.lookup f13 = some ⟨oc13, od13, .func (PySem.W.fnOf "_law_read" "_law_read" (defArgs s_law_read) (defBody s_law_read) (defScope s_law_read) .none kV13 dc13 pm13 an13 cd13 ct13), sl13⟩) (c13 : PySem.W.codeIn K cd13 "_law_read" = true) (k13 : PySem.W.keepIn K (.ref f13) = true)
    {f14 : Addr} {od14 an14 : Option Addr} {sl14 : Array (Option Value)} {oc14 kV14 dc14 pm14 cd14 ct14 : Value}
    (a14 : PySem.W.nsIn K mainGlobals "_law_signed" = some (some (.ref f14))) (l14 : K.lookup f14 = some ⟨oc14, od14, .func (PySem.W.fnOf "_law_signed" "_law_signed" (defArgs s_law_signed) (defBody s_law_signed) (defScope s_law_signed) .none kV14 dc14 pm14 an14 cd14 ct14), sl14⟩) (c14 : PySem.W.codeIn K cd14 "_law_signed" = true) (k14 : PySem.W.keepIn K (.ref f14) = true)
    {f15 : Addr} {od15 an15 : Option Addr} {sl15 : Array (Option Value)} {oc15 kV15 dc15 pm15 cd15 ct15 : Value}
    (a15 : PySem.W.nsIn K mainGlobals "_law_word" = some (some (.ref f15))) (l15 : K.lookup f15 = some ⟨oc15, od15, .func (PySem.W.fnOf "_law_word" "_law_word" (defArgs s_law_word) (defBody s_law_word) (defScope s_law_word) .none kV15 dc15 pm15 an15 cd15 ct15), sl15⟩) (c15 : PySem.W.codeIn K cd15 "_law_word" = true) (k15 : PySem.W.keepIn K (.ref f15) = true)
    {f16 : Addr} {od16 an16 : Option Addr} {sl16 : Array (Option Value)} {oc16 kV16 dc16 pm16 cd16 ct16 : Value}
    (a16 : PySem.W.nsIn K mainGlobals "_law_refused_right" = some (some (.ref f16))) (l16 : K.lookup f16 = some ⟨oc16, od16, .func (PySem.W.fnOf "_law_refused_right" "_law_refused_right" (defArgs s_law_refused_right) (defBody s_law_refused_right) (defScope s_law_refused_right) .none kV16 dc16 pm16 an16 cd16 ct16), sl16⟩) (c16 : PySem.W.codeIn K cd16 "_law_refused_right" = true) (k16 : PySem.W.keepIn K (.ref f16) = true)
    {f17 : Addr} {od17 an17 : Option Addr} {sl17 : Array (Option Value)} {oc17 kV17 dc17 pm17 cd17 ct17 : Value}
    (a17 : PySem.W.nsIn K mainGlobals "law" = some (some (.ref f17))) (l17 : K.lookup f17 = some ⟨oc17, od17, .func (PySem.W.fnOf "law" "law" (defArgs s_law) (defBody s_law) (defScope s_law) .none kV17 dc17 pm17 an17 cd17 ct17), sl17⟩) (c17 : PySem.W.codeIn K cd17 "law" = true) (k17 : PySem.W.keepIn K (.ref f17) = true)
    (z_bool : PySem.W.nsIn K mainGlobals "bool" = some none)
    (z_int : PySem.W.nsIn K mainGlobals "int" = some none)
    (z_isinstance : PySem.W.nsIn K mainGlobals "isinstance" = some none)
    (z_len : PySem.W.nsIn K mainGlobals "len" = some none)
    (z_list : PySem.W.nsIn K mainGlobals "list" = some none)
    (z_max : PySem.W.nsIn K mainGlobals "max" = some none)
    (z_min : PySem.W.nsIn K mainGlobals "min" = some none)
    (z_range : PySem.W.nsIn K mainGlobals "range" = some none)
    {t_MOST_ZEROS : Tok} (e_MOST_ZEROS : PySem.W.nsIn K mainGlobals "MOST_ZEROS" = some (some (.int (40) t_MOST_ZEROS)))
    {C_BadBits : Addr} (g_BadBits : PySem.W.nsIn K mainGlobals "BadBits" = some (some (.ref C_BadBits))) (x0_BadBits : PySem.W.excIn K C_BadBits [.type "ValueError", .type "Exception", .type "BaseException", .type "object"] "ValueError.__new__" = true)
    (x1_BadBits : PySem.W.keepIn K (.ref C_BadBits) = true) (x2_BadBits : PySem.W.subIn K (.ref C_BadBits) (.type "BaseException") = some true) (x3_BadBits : PySem.W.typeIn K (.ref C_BadBits) = some (.type "type"))
    (x4_BadBits : PySem.W.findIn K (.ref C_BadBits) "__getattribute__" = some (some (.builtin "BaseException.__getattribute__"))) (x5_BadBits : PySem.W.findIn K (.ref C_BadBits) "__getattr__" = some none) (x6_BadBits : PySem.W.hasDictIn K C_BadBits = true)
    (x7_BadBits : PySem.W.findIn K (.ref C_BadBits) "__class__" = some (some (.builtin "object.__class__"))) (x8_BadBits : PySem.W.specialIn K (.builtin "object.__class__") "__get__" = some (some (.builtin "getset_descriptor.__get__"))) (x9_BadBits : PySem.W.takesIn K (.builtin "object.__class__") = some true) (xa_BadBits : PySem.W.mroIn K C_BadBits (.type "object") = some true)
    {C_NarrowError : Addr} (g_NarrowError : PySem.W.nsIn K mainGlobals "NarrowError" = some (some (.ref C_NarrowError))) (x0_NarrowError : PySem.W.excIn K C_NarrowError [.type "ValueError", .type "Exception", .type "BaseException", .type "object"] "ValueError.__new__" = true)
    (x1_NarrowError : PySem.W.keepIn K (.ref C_NarrowError) = true) (x2_NarrowError : PySem.W.subIn K (.ref C_NarrowError) (.type "BaseException") = some true) (x3_NarrowError : PySem.W.typeIn K (.ref C_NarrowError) = some (.type "type"))
    (x4_NarrowError : PySem.W.findIn K (.ref C_NarrowError) "__getattribute__" = some (some (.builtin "BaseException.__getattribute__"))) (x5_NarrowError : PySem.W.findIn K (.ref C_NarrowError) "__getattr__" = some none) (x6_NarrowError : PySem.W.hasDictIn K C_NarrowError = true)
    (x7_NarrowError : PySem.W.findIn K (.ref C_NarrowError) "__class__" = some (some (.builtin "object.__class__"))) (x8_NarrowError : PySem.W.specialIn K (.builtin "object.__class__") "__get__" = some (some (.builtin "getset_descriptor.__get__"))) (x9_NarrowError : PySem.W.takesIn K (.builtin "object.__class__") = some true) (xa_NarrowError : PySem.W.mroIn K C_NarrowError (.type "object") = some true)
    {C_Outside : Addr} (g_Outside : PySem.W.nsIn K mainGlobals "Outside" = some (some (.ref C_Outside))) (x0_Outside : PySem.W.excIn K C_Outside [.type "ValueError", .type "Exception", .type "BaseException", .type "object"] "ValueError.__new__" = true)
    (x1_Outside : PySem.W.keepIn K (.ref C_Outside) = true) (x2_Outside : PySem.W.subIn K (.ref C_Outside) (.type "BaseException") = some true) (x3_Outside : PySem.W.typeIn K (.ref C_Outside) = some (.type "type"))
    (x4_Outside : PySem.W.findIn K (.ref C_Outside) "__getattribute__" = some (some (.builtin "BaseException.__getattribute__"))) (x5_Outside : PySem.W.findIn K (.ref C_Outside) "__getattr__" = some none) (x6_Outside : PySem.W.hasDictIn K C_Outside = true)
    (x7_Outside : PySem.W.findIn K (.ref C_Outside) "__class__" = some (some (.builtin "object.__class__"))) (x8_Outside : PySem.W.specialIn K (.builtin "object.__class__") "__get__" = some (some (.builtin "getset_descriptor.__get__"))) (x9_Outside : PySem.W.takesIn K (.builtin "object.__class__") = some true) (xa_Outside : PySem.W.mroIn K C_Outside (.type "object") = some true)
    (s_BadBits_BadBits : PySem.W.subIn K (.ref C_BadBits) (.ref C_BadBits) = some true)
    (s_BadBits_NarrowError : PySem.W.subIn K (.ref C_BadBits) (.ref C_NarrowError) = some true)
    (s_BadBits_Outside : PySem.W.subIn K (.ref C_BadBits) (.ref C_Outside) = some false)
    (s_NarrowError_BadBits : PySem.W.subIn K (.ref C_NarrowError) (.ref C_BadBits) = some false)
    (s_NarrowError_NarrowError : PySem.W.subIn K (.ref C_NarrowError) (.ref C_NarrowError) = some true)
    (s_NarrowError_Outside : PySem.W.subIn K (.ref C_NarrowError) (.ref C_Outside) = some false)
    (s_Outside_BadBits : PySem.W.subIn K (.ref C_Outside) (.ref C_BadBits) = some false)
    (s_Outside_NarrowError : PySem.W.subIn K (.ref C_Outside) (.ref C_NarrowError) = some true)
    (s_Outside_Outside : PySem.W.subIn K (.ref C_Outside) (.ref C_Outside) = some true)
    : ∃ fd : FuncData, (∀ (s : Shared) (v : Value), BindsTo s fd ⟨[v], []⟩ [("_law_script", v)]) ∧ ∀ base : Heap, K.In base → base.Ns mainGlobals mg → FnOk l.prog w K mg base (L2.CX l.prog w) 7 fa fd ["_law_script"] (sp_law K mg) := by
  have e := hfa.symm.trans (PySem.W.mg_of X G a17)
  cases e
  have e_BadBits := exA_of (PySem.W.mg_of X G g_BadBits)
  have e_NarrowError := exA_of (PySem.W.mg_of X G g_NarrowError)
  have e_Outside := exA_of (PySem.W.mg_of X G g_Outside)
  have Z : Zs K mg := ⟨PySem.W.mg_none_of X G z_bool, PySem.W.mg_none_of X G z_int, PySem.W.mg_none_of X G z_isinstance, PySem.W.mg_none_of X G z_len, PySem.W.mg_none_of X G z_list, PySem.W.mg_none_of X G z_max, PySem.W.mg_none_of X G z_min, PySem.W.mg_none_of X G z_range, ⟨_, PySem.W.mg_of X G e_MOST_ZEROS⟩, ExF.mk' (PySem.W.mg_of X G g_BadBits) x0_BadBits x1_BadBits x2_BadBits x3_BadBits x4_BadBits x5_BadBits x6_BadBits x7_BadBits x8_BadBits x9_BadBits xa_BadBits, ExF.mk' (PySem.W.mg_of X G g_NarrowError) x0_NarrowError x1_NarrowError x2_NarrowError x3_NarrowError x4_NarrowError x5_NarrowError x6_NarrowError x7_NarrowError x8_NarrowError x9_NarrowError xa_NarrowError, ExF.mk' (PySem.W.mg_of X G g_Outside) x0_Outside x1_Outside x2_Outside x3_Outside x4_Outside x5_Outside x6_Outside x7_Outside x8_Outside x9_Outside xa_Outside, (by rw [e_BadBits]; exact s_BadBits_BadBits), (by rw [e_BadBits]; exact kit_own x6_BadBits x3_BadBits s_BadBits_BadBits s_BadBits_BadBits), (by rw [e_BadBits, e_NarrowError]; exact s_BadBits_NarrowError), (by rw [e_BadBits, e_NarrowError]; exact kit_own x6_NarrowError x3_NarrowError s_BadBits_NarrowError s_BadBits_BadBits), (by rw [e_BadBits, e_Outside]; exact s_BadBits_Outside), (by rw [e_BadBits, e_Outside]; exact kit_own x6_Outside x3_Outside s_BadBits_Outside s_BadBits_BadBits), (by rw [e_NarrowError, e_BadBits]; exact s_NarrowError_BadBits), (by rw [e_NarrowError, e_BadBits]; exact kit_own x6_BadBits x3_BadBits s_NarrowError_BadBits s_NarrowError_NarrowError), (by rw [e_NarrowError]; exact s_NarrowError_NarrowError), (by rw [e_NarrowError]; exact kit_own x6_NarrowError x3_NarrowError s_NarrowError_NarrowError s_NarrowError_NarrowError), (by rw [e_NarrowError, e_Outside]; exact s_NarrowError_Outside), (by rw [e_NarrowError, e_Outside]; exact kit_own x6_Outside x3_Outside s_NarrowError_Outside s_NarrowError_NarrowError), (by rw [e_Outside, e_BadBits]; exact s_Outside_BadBits), (by rw [e_Outside, e_BadBits]; exact kit_own x6_BadBits x3_BadBits s_Outside_BadBits s_Outside_Outside), (by rw [e_Outside, e_NarrowError]; exact s_Outside_NarrowError), (by rw [e_Outside, e_NarrowError]; exact kit_own x6_NarrowError x3_NarrowError s_Outside_NarrowError s_Outside_Outside), (by rw [e_Outside]; exact s_Outside_Outside), (by rw [e_Outside]; exact kit_own x6_Outside x3_Outside s_Outside_Outside s_Outside_Outside)⟩
  have F0 := fun_mk (st := s_is_bit) l0 c0 k0
  have F1 := fun_mk (st := s_check_bits) l1 c1 k1
  have F2 := fun_mk (st := s_number_of) l2 c2 k2
  have F3 := fun_mk (st := s_count_at) l3 c3 k3
  have F4 := fun_mk (st := s_signed_at) l4 c4 k4
  have F5 := fun_mk (st := s_check_place) l5 c5 k5
  have F6 := fun_mk (st := s_read_count) l6 c6 k6
  have F7 := fun_mk (st := s_read_signed) l7 c7 k7
  have F8 := fun_mk (st := s_law_pool) l8 c8 k8
  have F9 := fun_mk (st := s_law_take) l9 c9 k9
  have F10 := fun_mk (st := s_law_one) l10 c10 k10
  have F11 := fun_mk (st := s_law_bits) l11 c11 k11
  have F12 := fun_mk (st := s_law_list) l12 c12 k12
  have F13 := fun_mk (st := s_law_read) l13 c13 k13
  have F14 := fun_mk (st := s_law_signed) l14 c14 k14
  have F15 := fun_mk (st := s_law_word) l15 c15 k15
  have F16 := fun_mk (st := s_law_refused_right) l16 c16 k16
  have F17 := fun_mk (st := s_law) l17 c17 k17
  refine ⟨PySem.W.fnOf "law" "law" (defArgs s_law) (defBody s_law) (defScope s_law) .none kV17 dc17 pm17 an17 cd17 ct17, fun s v => .of_eq rfl, fun base _ _ => ?_⟩
  have R_number_of : Ok_number_of l.prog w K mg base := ⟨_, _, okx_number_of Z F2 (PySem.W.mg_of X G a2) ⟩
  have R_count_at : Ok_count_at l.prog w K mg base := ⟨_, _, okx_count_at Z F3 (PySem.W.mg_of X G a3) R_number_of⟩
  have R_is_bit : Ok_is_bit l.prog w K mg base := ⟨_, _, okx_is_bit Z F0 (PySem.W.mg_of X G a0) ⟩
  have R_check_bits : Ok_check_bits l.prog w K mg base := ⟨_, _, okx_check_bits Z F1 (PySem.W.mg_of X G a1) R_is_bit⟩
  have R_check_place : Ok_check_place l.prog w K mg base := ⟨_, _, okx_check_place Z F5 (PySem.W.mg_of X G a5) R_check_bits⟩
  have R_read_count : Ok_read_count l.prog w K mg base := ⟨_, _, okx_read_count Z F6 (PySem.W.mg_of X G a6) R_count_at R_check_place⟩
  have R_law_take : Ok_law_take l.prog w K mg base := ⟨_, _, okx_law_take Z F9 (PySem.W.mg_of X G a9) ⟩
  have R_signed_at : Ok_signed_at l.prog w K mg base := ⟨_, _, okx_signed_at Z F4 (PySem.W.mg_of X G a4) R_count_at⟩
  have R_read_signed : Ok_read_signed l.prog w K mg base := ⟨_, _, okx_read_signed Z F7 (PySem.W.mg_of X G a7) R_signed_at R_check_place⟩
  have R_law_word : Ok_law_word l.prog w K mg base := ⟨_, _, okx_law_word Z F15 (PySem.W.mg_of X G a15) R_read_signed R_read_count⟩
  have R_law_one : Ok_law_one l.prog w K mg base := ⟨_, _, okx_law_one Z F10 (PySem.W.mg_of X G a10) R_law_take⟩
  have R_law_refused_right : Ok_law_refused_right l.prog w K mg base := ⟨_, _, okx_law_refused_right Z F16 (PySem.W.mg_of X G a16) R_law_take R_law_word R_law_one⟩
  have R_law_signed : Ok_law_signed l.prog w K mg base := ⟨_, _, okx_law_signed Z F14 (PySem.W.mg_of X G a14) ⟩
  have R_law_read : Ok_law_read l.prog w K mg base := ⟨_, _, okx_law_read Z F13 (PySem.W.mg_of X G a13) ⟩
  have R_law_bits : Ok_law_bits l.prog w K mg base := ⟨_, _, okx_law_bits Z F11 (PySem.W.mg_of X G a11) R_law_take⟩
  have R_law_list : Ok_law_list l.prog w K mg base := ⟨_, _, okx_law_list Z F12 (PySem.W.mg_of X G a12) R_law_bits R_law_one R_law_take⟩
  have R_law_pool : Ok_law_pool l.prog w K mg base := ⟨_, _, okx_law_pool Z F8 (PySem.W.mg_of X G a8) ⟩
  exact (okx_law (P := l.prog) (w := w) (base := base) Z F17 (PySem.W.mg_of X G a17) R_read_count R_law_refused_right R_law_take R_law_word R_law_signed R_law_read R_law_list R_law_pool).G
theorem walk {l : PySem.W.OpenLaw} {q : Program} {loose : List Str} {XP : (Str → Option Value) → Heap → Prop} {YP : World → Heap → Prop} {d : DefRec} {K : Params → PySem.W.Frag} (hn : l.most = some 63) (hdf : d.params.defaults = [])
    (hY : ∀ (w : World) (h : Heap), YP w h → (K w.params).In h)
    (F : ∀ (w : World) (mg : Str → Option Value) (fa : Addr) (h : Heap), (K w.params).In h → h.Ns mainGlobals mg → mg d.name = some (.ref fa) →
      ∃ fd : FuncData, (∀ (s : Shared) (u : Value), BindsTo s fd ⟨[u], []⟩ [("_law_script", u)]) ∧ ∀ base : Heap, (K w.params).In base → base.Ns mainGlobals mg → FnOk l.prog w (K w.params) mg base (L2.CX l.prog w) 7 fa fd ["_law_script"] (sp_law (K w.params) mg)) :
    PySem.W.WalkO q loose XP YP l.row.toRowW d [] (fun f vs => PySem.call f vs) :=
  L2.walk_of (n := 63) (k := 7) (x := "_law_script") (CX := fun w => L2.CX l.prog w) (sp := fun w => sp_lawK (K w.params)) hn (by decide) hdf ⟨rfl, by decide, by decide⟩ hY F (fun _ _ _ ns hl _ hS => law_start hl hS) fun _ _ _ _ _ z => cx_none z
end NB
open PySem PySem.W PyProof.Rows in
set_option maxRecDepth 100000 in
set_option maxHeartbeats 0 in
theorem PySem.Challenge.cw_narrowingbits_k03_long_ones_and_places_holds : PySem.Challenge.rw_narrowingbits_k03_long_ones_and_places.Holds := by
  w_on; o_law; k_head; (case hw => w_witness2)
  k_fill
  refine NB.walk (l := PySem.Challenge.rw_narrowingbits_k03_long_ones_and_places) rfl rfl (fun w h Y => PySem.W.kIn_of Y) ?F
  case F =>
    intro w mg fa h KX G hmg
    refine' NB.all_mk KX G hmg ?a0 ?l0 ?c0 ?k0 ?a1 ?l1 ?c1 ?k1 ?a2 ?l2 ?c2 ?k2 ?a3 ?l3 ?c3 ?k3 ?a4 ?l4 ?c4 ?k4 ?a5 ?l5 ?c5 ?k5 ?a6 ?l6 ?c6 ?k6 ?a7 ?l7 ?c7 ?k7 ?a8 ?l8 ?c8 ?k8 ?a9 ?l9 ?c9 ?k9 ?a10 ?l10 ?c10 ?k10 ?a11 ?l11 ?c11 ?k11 ?a12 ?l12 ?c12 ?k12 ?a13 ?l13 ?c13 ?k13 ?a14 ?l14 ?c14 ?k14 ?a15 ?l15 ?c15 ?k15 ?a16 ?l16 ?c16 ?k16 ?a17 ?l17 ?c17 ?k17 ?z_bool ?z_int ?z_isinstance ?z_len ?z_list ?z_max ?z_min ?z_range ?e_MOST_ZEROS ?g_BadBits ?x0_BadBits ?x1_BadBits ?x2_BadBits ?x3_BadBits ?x4_BadBits ?x5_BadBits ?x6_BadBits ?x7_BadBits ?x8_BadBits ?x9_BadBits ?xa_BadBits ?g_NarrowError ?x0_NarrowError ?x1_NarrowError ?x2_NarrowError ?x3_NarrowError ?x4_NarrowError ?x5_NarrowError ?x6_NarrowError ?x7_NarrowError ?x8_NarrowError ?x9_NarrowError ?xa_NarrowError ?g_Outside ?x0_Outside ?x1_Outside ?x2_Outside ?x3_Outside ?x4_Outside ?x5_Outside ?x6_Outside ?x7_Outside ?x8_Outside ?x9_Outside ?xa_Outside ?s_BadBits_BadBits ?s_BadBits_NarrowError ?s_BadBits_Outside ?s_NarrowError_BadBits ?s_NarrowError_NarrowError ?s_NarrowError_Outside ?s_Outside_BadBits ?s_Outside_NarrowError ?s_Outside_Outside
    (case a0 => k_is)
    (case l0 => k_is)
    (case c0 => k_is)
    (case k0 => k_is)
    (case a1 => k_is)
    (case l1 => k_is)
    (case c1 => k_is)
    (case k1 => k_is)
    (case a2 => k_is)
    (case l2 => k_is)
    (case c2 => k_is)
    (case k2 => k_is)
    (case a3 => k_is)
    (case l3 => k_is)
    (case c3 => k_is)
    (case k3 => k_is)
    (case a4 => k_is)
    (case l4 => k_is)
    (case c4 => k_is)
    (case k4 => k_is)
    (case a5 => k_is)
    (case l5 => k_is)
    (case c5 => k_is)
    (case k5 => k_is)
    (case a6 => k_is)
    (case l6 => k_is)
    (case c6 => k_is)
    (case k6 => k_is)
    (case a7 => k_is)
    (case l7 => k_is)
    (case c7 => k_is)
    (case k7 => k_is)
    (case a8 => k_is)
    (case l8 => k_is)
    (case c8 => k_is)
    (case k8 => k_is)
    (case a9 => k_is)
    (case l9 => k_is)
    (case c9 => k_is)
    (case k9 => k_is)
    (case a10 => k_is)
    (case l10 => k_is)
    (case c10 => k_is)
    (case k10 => k_is)
    (case a11 => k_is)
    (case l11 => k_is)
    (case c11 => k_is)
    (case k11 => k_is)
    (case a12 => k_is)
    (case l12 => k_is)
    (case c12 => k_is)
    (case k12 => k_is)
    (case a13 => k_is)
    (case l13 => k_is)
    (case c13 => k_is)
    (case k13 => k_is)
    (case a14 => k_is)
    (case l14 => k_is)
    (case c14 => k_is)
    (case k14 => k_is)
    (case a15 => k_is)
    (case l15 => k_is)
    (case c15 => k_is)
    (case k15 => k_is)
    (case a16 => k_is)
    (case l16 => k_is)
    (case c16 => k_is)
    (case k16 => k_is)
    (case a17 => k_is)
    (case l17 => k_is)
    (case c17 => k_is)
    (case k17 => k_is)
    (case z_bool => k_is)
    (case z_int => k_is)
    (case z_isinstance => k_is)
    (case z_len => k_is)
    (case z_list => k_is)
    (case z_max => k_is)
    (case z_min => k_is)
    (case z_range => k_is)
    (case e_MOST_ZEROS => k_is)
    (case g_BadBits => k_is)
    (case x0_BadBits => k_exc)
    (case x1_BadBits => k_is)
    (case x2_BadBits => k_is)
    (case x3_BadBits => k_is)
    (case x4_BadBits => k_is)
    (case x5_BadBits => k_is)
    (case x6_BadBits => k_is)
    (case x7_BadBits => k_is)
    (case x8_BadBits => k_is)
    (case x9_BadBits => k_is)
    (case xa_BadBits => k_is)
    (case g_NarrowError => k_is)
    (case x0_NarrowError => k_exc)
    (case x1_NarrowError => k_is)
    (case x2_NarrowError => k_is)
    (case x3_NarrowError => k_is)
    (case x4_NarrowError => k_is)
    (case x5_NarrowError => k_is)
    (case x6_NarrowError => k_is)
    (case x7_NarrowError => k_is)
    (case x8_NarrowError => k_is)
    (case x9_NarrowError => k_is)
    (case xa_NarrowError => k_is)
    (case g_Outside => k_is)
    (case x0_Outside => k_exc)
    (case x1_Outside => k_is)
    (case x2_Outside => k_is)
    (case x3_Outside => k_is)
    (case x4_Outside => k_is)
    (case x5_Outside => k_is)
    (case x6_Outside => k_is)
    (case x7_Outside => k_is)
    (case x8_Outside => k_is)
    (case x9_Outside => k_is)
    (case xa_Outside => k_is)
    (case s_BadBits_BadBits => first | rfl | k_is)
    (case s_BadBits_NarrowError => first | rfl | k_is)
    (case s_BadBits_Outside => first | rfl | k_is)
    (case s_NarrowError_BadBits => first | rfl | k_is)
    (case s_NarrowError_NarrowError => first | rfl | k_is)
    (case s_NarrowError_Outside => first | rfl | k_is)
    (case s_Outside_BadBits => first | rfl | k_is)
    (case s_Outside_NarrowError => first | rfl | k_is)
    (case s_Outside_Outside => first | rfl | k_is)
#print axioms PySem.Challenge.cw_narrowingbits_k03_long_ones_and_places_holds
