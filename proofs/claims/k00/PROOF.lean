import PyProof.Rows.All
import Wide.All
import OpenK.AllK
import Wide.FinOn
import HandS.ForMost
import HandS.ForExc
import HandS.ExcIs
import HandS.IsInst
import HandS.EndTab
import HandS.Style
import HandS.FStr
import HandS.StrMore
import HandS.WideBits
import HandS.Walk
import PyProof.Rows.StrIntSpec
import PyProof.FString3
import PyProof.Rows.FStr
import PySem.Challenge.RW_narrowingbits_k00_counts_read_back
set_option Elab.async false
set_option maxRecDepth 100000
set_option maxHeartbeats 4000000
namespace NB
open PySem L2
/-! ### the frozen part, the steps -/
/-- from (F, H) to (F', H'): F is what stands still, H the whole; S: the cells that may be written -/
structure Stp (S : Addr → Prop) (F H F' H' : Hp) : Prop where
  ff : Same F F'
  fh : Same F' H'
  fo : ∀ b o, H b = some o → F' b = F b
  keep : ∀ b o, ¬ S b → H b = some o → H' b = some o
  dom : ∀ b o, H b = some o → ∃ o', H' b = some o'
abbrev S0 : Addr → Prop := fun _ => False
abbrev S1 (p : Addr) : Addr → Prop := fun b => b = p
section
variable {S S' : Addr → Prop} {F H F1 H1 F2 H2 : Hp} {p : Addr} {o o' : HO}
theorem Stp.rfl' (h : Same F H) : Stp S F H F H := ⟨Same.refl F, h, fun _ _ _ => rfl, fun _ _ _ e => e, fun _ o e => ⟨o, e⟩⟩
theorem Stp.trans (a : Stp S F H F1 H1) (b : Stp S F1 H1 F2 H2) : Stp S F H F2 H2 :=
  ⟨a.ff.trans b.ff, b.fh, fun c o e => by
    obtain ⟨o', e'⟩ := a.dom c o e
    rw [b.fo c o' e', a.fo c o e], fun c o n e => b.keep c o n (a.keep c o n e), fun c o e => by
    obtain ⟨o', e'⟩ := a.dom c o e
    exact b.dom c o' e'⟩
theorem Stp.sub (i : ∀ b, S b → S' b) (a : Stp S F H F1 H1) : Stp S' F H F1 H1 := ⟨a.ff, a.fh, a.fo, fun b o n e => a.keep b o (fun z => n (i b z)) e, a.dom⟩
theorem Stp.up (a : Stp S0 F H F1 H1) : Stp S F H F1 H1 := a.sub fun _ z => z.elim
theorem Stp.same (a : Stp S0 F H F1 H1) : Same H H1 := fun b o e => a.keep b o (fun z => z) e
/-- a new thing that will never change -/
theorem Stp.new (h : Same F H) (hp : H p = none) : Stp S F H (upd F p o) (upd H p o) := by
  have fp : F p = none := h.free hp
  refine ⟨fun b u e => ?_, fun b u e => ?_, fun b u e => ?_, fun b u _ e => ?_, fun b u e => ⟨u, ?_⟩⟩
  · rw [upd_ne (ne_of_none e fp)]; exact e
  · by_cases q : b = p
    · subst q; rw [upd_same] at e ⊢; exact e
    · rw [upd_ne q] at e ⊢; exact h b u e
  · rw [upd_ne (ne_of_none e hp)]
  · rw [upd_ne (ne_of_none e hp)]; exact e
  · rw [upd_ne (ne_of_none e hp)]; exact e
/-- a new cell -/
theorem Stp.cell (h : Same F H) (hp : H p = none) : Stp S F H F (upd H p o) :=
  ⟨Same.refl F, fun b u e => by rw [upd_ne (ne_of_none (h b u e) hp)]; exact h b u e, fun _ _ _ => rfl, fun b u _ e => by rw [upd_ne (ne_of_none e hp)]; exact e, fun b u e => ⟨u, by rw [upd_ne (ne_of_none e hp)]; exact e⟩⟩
/-- a cell written -/
theorem Stp.wr (h : Same F H) (hs : S p) (fp : F p = none) : Stp S F H F (upd H p o) :=
  ⟨Same.refl F, fun b u e => by
    have n : b ≠ p := fun q => by rw [q, fp] at e; cases e
    rw [upd_ne n]; exact h b u e, fun _ _ _ => rfl, fun b u n e => by
    have q : b ≠ p := fun z => n (z ▸ hs)
    rw [upd_ne q]; exact e, fun b u e => by
    by_cases q : b = p
    · exact ⟨o, by rw [q, upd_same]⟩
    · exact ⟨u, by rw [upd_ne q]; exact e⟩⟩
/-- a cell that was made here is written -/
theorem Stp.wrNew (a : Stp S F H F1 H1) (hn : H p = none) (fp : F1 p = none) : Stp S F H F1 (upd H1 p o) :=
  ⟨a.ff, fun b u e => by
    have n : b ≠ p := fun q => by rw [q, fp] at e; cases e
    rw [upd_ne n]; exact a.fh b u e, a.fo, fun b u n e => by
    rw [upd_ne (ne_of_none e hn)]; exact a.keep b u n e, fun b u e => by
    rw [upd_ne (ne_of_none e hn)]; exact a.dom b u e⟩
/-- a cell that was made here stands still from now on -/
theorem Stp.freeze (a : Stp S F H F1 H1) (hn : H p = none) (hp : H1 p = some o) (fp : F1 p = none) : Stp S F H (upd F1 p o) H1 :=
  ⟨fun b u e => by
    have e1 := a.ff b u e
    rw [upd_ne (ne_of_none e1 fp)]; exact e1, fun b u e => by
    by_cases q : b = p
    · subst q; rw [upd_same] at e; cases e; exact hp
    · rw [upd_ne q] at e; exact a.fh b u e, fun b u e => by
    rw [upd_ne (ne_of_none e hn)]; exact a.fo b u e, a.keep, a.dom⟩
theorem Stp.free (a : Stp S F H F1 H1) (hp : H p = some o) (fp : F p = none) : F1 p = none := (a.fo p o hp).trans fp
end
/-! ### a def that stands, with its promise -/
structure Fn (P : Program) (w : World) (K : PySem.W.Frag) (mg : Str → Option Value) (base : Heap) (CX : CXT) (k : Nat) (nm : Str) (st : Stmt) (f : Addr) (fd : FuncData) (ps : List Str) (sp : Sp) : Prop where
  G : FnOk P w K mg base CX k f fd ps sp
  m : mg nm = some (.ref f)
  kp : PySem.W.keepIn K (.ref f) = true
  b : Binds K fd ps []
  F : Fun K nm nm st f fd
/-! ### keywords -/
def gK {α : Type} (n m : Nat) (us ws : List α) : List α := if us.length = n ∧ ws.length = m then us ++ ws else []
theorem _root_.L2.Fun.kbinds {K : PySem.W.Frag} {x qual : Str} {st : Stmt} {f : Addr} {fd : FuncData} {ps : List Str} (F : Fun K x qual st f fd) (n : Nat) (ks : List Str) (hn : 0 < ps.length)
    (h : ∀ (kV doc pm : Value) (an : Option Addr) (cdv ct : Value) (us ws : List Value), us.length = n → ws.length = ks.length → bindArgs (PySem.W.fnOf x qual (defArgs st) (defBody st) (defScope st) .none kV doc pm an cdv ct) ⟨us, ks.zip ws⟩ = pure (ps.zip (us ++ ws))) :
    KBinds K fd ps ks (gK n ks.length) (gK n ks.length) := by
  obtain ⟨oc, od, kV, doc, pm, an, cdv, ct, osl, rfl, lk, hcd⟩ := F.ex
  refine ⟨fun s us ws _ hl => ?_, fun {vs us zs ws} r rz => ?_⟩
  · by_cases c : us.length = n ∧ ws.length = ks.length
    · have e : gK n ks.length us ws = us ++ ws := if_pos c
      rw [e]
      exact .of_eq (h kV doc pm an cdv ct us ws c.1 c.2)
    · have e : gK n ks.length us ws = [] := if_neg c
      rw [e] at hl
      exact absurd hl (by show ¬ 0 = ps.length; omega)
  · unfold gK
    by_cases c : us.length = n ∧ ws.length = ks.length
    · have c' : vs.length = n ∧ zs.length = ks.length := ⟨r.length.trans c.1, rz.length.trans c.2⟩
      rw [if_pos c, if_pos c']
      exact r.append rz
    · have c' : ¬ (vs.length = n ∧ zs.length = ks.length) := fun z => c ⟨r.length.symm.trans z.1, rz.length.symm.trans z.2⟩
      rw [if_neg c, if_neg c']
      exact .nil
def tCallK0 (sp : Sp) (gV : List V → List V → List V) (E : XK) (tk : TA) : TE := fun σ H Q => tk σ H fun zs H2 => sp (gV [] zs) H2 Q E
theorem pe_callK0 {X : Cx} {CX : CXT} {k : Nat} {f : Addr} {fd : FuncData} {ps ks : List Str} {sp : Sp} {E : XK} {x : Str} {p pos : Pos} {kws : List Keyword} {tk : TA} {g : List Value → List Value → List Value} {gV : List V → List V → List V}
    (F : FnOk X.prog X.w X.K X.mg X.base CX k f fd ps sp) (hr : Room k X.A) (hg : Gl X x) (hm : X.mg x = some (.ref f)) (hk : PySem.W.keepIn X.K (.ref f) = true) (hb : KBinds X.K fd ps ks g gV) (hx : Passes CX X E) (hkw : PK X kws tk)
    (hall : (backToKw pos (keywordEach kws X.env)).all (·.1.isSome) = true := by rfl) (hks : (backToKw pos (keywordEach kws X.env)).filterMap (·.1) = ks := by rfl) (hdb : (x == ("__debug__" : Str)) = false := by decide)
    (hpl : ((backTo pos (starEach [] X.env)).any (·.1) || (backToKw pos (keywordEach kws X.env)).any (·.1.isNone)) = false := by rfl) : PE X (.Call (.Name x p) [] kws pos) (tCallK0 sp gV E tk) := by
  refine ⟨fun pins s σ H Q I h => ?_⟩
  refine wpAny_Call_Name_kw (ld_glob I hg hm ?_ hdb)
  refine PySem.W.callWith_KW0 (h₀ := X.base) I.ok.mod.kin hk hall ?_ hpl
  refine thn (hkw.run pos pins s σ H _ I h) fun ws s2 ⟨zs, H2, I2, rz, q2⟩ => ⟨I2.kIn, ?_⟩
  rw [hks]
  exact run_fnk F hr hb hx I2 .nil rz q2
def SpN (n : Nat) (s : Sp) : Sp := fun vs H Q E => vs.length = n ∧ s vs H Q E
/-! ### rules under names -/
def rInt1 : List V → Hp → VK → Prop := fun xs H Q => (∃ i, xs = [.int i] ∧ Q (.int i) H) ∨ ∃ k, xs = [.bl k] ∧ Q (.int (if k then 1 else 0)) H
def rMax2 : List V → Hp → VK → Prop := fun xs H Q => ∃ i j, xs = [.int i, .int j] ∧ Q (.int (if j > i then j else i)) H
def rMin2 : List V → Hp → VK → Prop := fun xs H Q => ∃ i j, xs = [.int i, .int j] ∧ Q (.int (if j < i then j else i)) H
def rLen (K : PySem.W.Frag) : List V → Hp → VK → Prop := fun xs H Q => ∃ p ys, xs = [.ref p] ∧ (SqL K H p ys ∨ SqT K H p ys) ∧ Q (.int ys.length) H
section
variable {X : Cx}
theorem c_int1 : CallR X (.type "int") rInt1 := call_int1
theorem c_max2 (hc : X.calm = true) : CallR X (.builtin "max") rMax2 := call_max2 hc
theorem c_min2 (hc : X.calm = true) : CallR X (.builtin "min") rMin2 := call_min2 hc
theorem c_len (K : PySem.W.Frag) (e : X.K = K) : CallR X (.builtin "len") (rLen K) := by subst e; exact call_len_seq
theorem c_isi (K : PySem.W.Frag) (e : X.K = K) : CallR X (.builtin "isinstance") (rIsi K) := by subst e; exact call_isi
theorem i_list (K : PySem.W.Frag) (e : X.K = K) : IxR X (rIxL K) := by subst e; exact ix_list
theorem i_tup (K : PySem.W.Frag) (e : X.K = K) : IxR X (rIxT K) := by subst e; exact ix_tup
theorem o_and1 : OpR X (binaryOp .BitAnd) (fun x y H Q => ∃ i : Int, x = .int i ∧ y = .int 1 ∧ Q (.int (i % 2)) H) := by
  intro pins s σ H x y v u Q I rx ry h
  obtain ⟨i, rfl, rfl, q⟩ := h
  exact op_andM pins s σ H _ _ v u Q I rx ry ⟨i, 1, rfl, rfl, by simpa using q⟩
theorem l_list (K : PySem.W.Frag) (e : X.K = K) : SlR X (rSlL K) := by subst e; exact sl_list
theorem o_in (K : PySem.W.Frag) (e : X.K = K) : OpR X (compareOp .In) (rIn K false) := by subst e; exact op_in_seq
theorem o_notIn (K : PySem.W.Frag) (e : X.K = K) : OpR X (compareOp .NotIn) (rIn K true) := by subst e; exact op_notIn_seq
def rDivmod : List V → Hp → VK → Prop := fun xs H Q => ∃ i j, xs = [.int i, .int j] ∧ CDiv i j ∧ ∀ p, H p = none → Q (.ref p) (upd H p (.tup [.int (i / j), .int (i % j)]))
theorem c_divmod : CallR X (.builtin "divmod") rDivmod := call_divmod
theorem o_eqD (K : PySem.W.Frag) (e : X.K = K) (hu : X.A.units + 64 < cLine) : OpR X (compareOp .Eq) (rEqD K) := by subst e; exact op_eqD hu
theorem o_neD (K : PySem.W.Frag) (e : X.K = K) (hu : X.A.units + 64 < cLine) : OpR X (compareOp .NotEq) (rNeD K) := by subst e; exact op_neD hu
end
theorem sz {n : Nat} (h : n ≤ 100000) : n ≤ sizeLine := Nat.le_trans h (by decide)
/-! ### readings, step by step -/
section
variable {X : Cx} {K : PySem.W.Frag} {σ : L2.St} {H F : Hp} {Q : VK} {i : Nat} {v x y : V} {ta tb : TE} {r : R2}
theorem s_var (h : σ[i]? = some (some v)) (q : Q v H) : tVar i σ H Q := ⟨v, h, q⟩
theorem s_c (q : Q v H) : tC v σ H Q := q
theorem s_op (h : ta σ H fun x H1 => tb σ H1 fun y H2 => r x y H2 Q) : tOp r ta tb σ H Q := h
theorem s_I0 {g : Int → Int → V} {i j : Int} (q : Q (g i j) H) : rI0 g (.int i) (.int j) H Q := ⟨i, j, rfl, rfl, q⟩
theorem s_I {C : Int → Int → Prop} {g : Int → Int → V} {i j : Int} (c : C i j) (q : Q (g i j) H) : rI C g (.int i) (.int j) H Q := ⟨i, j, rfl, rfl, c, q⟩
theorem s_eq (h : scal x y = true) (q : Q (.bl (decide (x = y))) H) : rEq x y H Q := ⟨h, q⟩
theorem dec_int (i j : Int) : decide (V.int i = V.int j) = decide (i = j) := by by_cases h : i = j <;> simp [h]
theorem dec_str (i j : Str) : decide (V.str i = V.str j) = decide (i = j) := by by_cases h : i = j <;> simp [h]
theorem s_eqI {i j : Int} (q : Q (.bl (decide (i = j))) H) : rEq (.int i) (.int j) H Q := ⟨rfl, by rw [dec_int]; exact q⟩
theorem s_neI {i j : Int} (q : Q (.bl (!decide (i = j))) H) : rNe (.int i) (.int j) H Q := ⟨rfl, by rw [dec_int]; exact q⟩
theorem s_eqS {i j : Str} (q : Q (.bl (decide (i = j))) H) : rEq (.str i) (.str j) H Q := ⟨rfl, by rw [dec_str]; exact q⟩
theorem s_neS {i j : Str} (q : Q (.bl (!decide (i = j))) H) : rNe (.str i) (.str j) H Q := ⟨rfl, by rw [dec_str]; exact q⟩
theorem s_chain {r' : R2} {tc : TE} (h : ta σ H fun x H1 => tb σ H1 fun y H2 => r x y H2 fun z H3 => ∃ k, z = .bl k ∧ if k = true then tc σ H3 fun u H4 => r' y u H4 Q else Q (.bl false) H3) : tChain r r' ta tb tc σ H Q := by
  unfold tChain; exact h
theorem s_par3 {i j l : Nat} {ta : TA} {D : Ends} (h : ta σ H fun vs H1 => ∃ u v w, vs = [u, v, w] ∧ D.nx (((σ.set i (some u)).set j (some v)).set l (some w)) H1) : tPar3 i j l ta D σ H := h
theorem s_par {i j : Nat} {ta : TA} {D : Ends} (h : ta σ H fun vs H1 => ∃ v w, vs = [v, w] ∧ D.nx ((σ.set i (some v)).set j (some w)) H1) : tPar i j ta D σ H := h
theorem s_v2 {x y : V} {R : V → V → Prop} (h : R x y) : ∃ a b, [x, y] = [a, b] ∧ R a b := ⟨x, y, rfl, h⟩
theorem s_v3 {x y z : V} {R : V → V → V → Prop} (h : R x y z) : ∃ a b c, [x, y, z] = [a, b, c] ∧ R a b c := ⟨x, y, z, rfl, h⟩
theorem s_tup {t : TA} (h : t σ H fun xs H1 => xs.length ≤ sizeLine ∧ ∀ p, H1 p = none → Q (.ref p) (upd H1 p (.tup xs))) : tTup t σ H Q := h
theorem s_lst {t : TA} (h : t σ H fun xs H1 => xs.length ≤ sizeLine ∧ ∀ p, H1 p = none → Q (.ref p) (upd H1 p (.lst xs))) : tLst t σ H Q := h
theorem s_nil {Q : List V → Hp → Prop} (q : Q [] H) : tNil σ H Q := q
theorem s_cons {t : TA} {Q : List V → Hp → Prop} (h : ta σ H fun x H1 => t σ H1 fun xs H2 => Q (x :: xs) H2) : tCons ta t σ H Q := h
theorem s_call {sp : Sp} {dvs : List V} {E : XK} {t : TA} (h : t σ H fun vs H1 => sp (vs ++ dvs) H1 Q E) : tCall sp dvs E t σ H Q := h
theorem s_callK0 {sp : Sp} {gV : List V → List V → List V} {E : XK} {t : TA} (h : t σ H fun zs H1 => sp (gV [] zs) H1 Q E) : tCallK0 sp gV E t σ H Q := h
theorem s_callK {sp : Sp} {gV : List V → List V → List V} {E : XK} {t tk : TA} (h : t σ H fun vs H1 => tk σ H1 fun zs H2 => sp (gV vs zs) H2 Q E) : tCallK sp gV E t tk σ H Q := h
theorem s_bits (h : ta σ H fun x H1 => ∃ i, x = .int i ∧ Q (.int (Builtin.Int.intBits i : Nat)) H1) : tBits ta σ H Q := h
theorem s_i {i : Int} {R : Int → Prop} (h : R i) : ∃ j, V.int i = V.int j ∧ R j := ⟨i, rfl, h⟩
theorem s_bm {T : String} {r : V → List V → Hp → VK → Prop} {to : TE} {t : TA} (h : to σ H fun x H1 => tyV K T x H1 ∧ t σ H1 fun xs H2 => r x xs H2 Q) : tBM K T r to t σ H Q := h
theorem s_bm0 {T : String} {r : V → List V → Hp → VK → Prop} {to : TE} (h : to σ H fun x H1 => tyV K T x H1 ∧ r x [] H1 Q) : tBM0 K T r to σ H Q := h
theorem s_m1 {r : V → List V → Hp → VK → Prop} (h : ta σ H fun x H1 => (∃ a, x = .str a) ∧ tb σ H1 fun y H2 => r x [y] H2 Q) : tM1 r ta tb σ H Q := h
theorem s_cb {r : List V → Hp → VK → Prop} {t : TA} (h : t σ H fun vs H1 => r vs H1 Q) : tCB r t σ H Q := h
theorem s_test {Q : Bool → Hp → Prop} {t : TE} (h : t σ H fun x H' => ∃ k, x = .bl k ∧ Q k H') : tTest t σ H Q := h
theorem s_tB {Q : Bool → Hp → Prop} {t : TE} (h : t σ H fun x H' => ∃ k, x = .bl k ∧ Q k H') : tB t σ H Q := h
theorem s_bl {k : Bool} {Q : Bool → Hp → Prop} (q : Q k H) : ∃ k', V.bl k = .bl k' ∧ Q k' H := ⟨k, rfl, q⟩
theorem s_not {Q : Bool → Hp → Prop} {t : TT} (h : t σ H fun c H1 => Q (!c) H1) : tNot t σ H Q := h
theorem s_and {Q : Bool → Hp → Prop} {t u : TT} (h : t σ H fun c H1 => if c = true then u σ H1 Q else Q false H1) : tAnd t u σ H Q := h
theorem s_or {Q : Bool → Hp → Prop} {t u : TT} (h : t σ H fun c H1 => if c = true then Q true H1 else u σ H1 Q) : tOr t u σ H Q := h
theorem s_un {r : V → Hp → VK → Prop} (h : ta σ H fun x H1 => r x H1 Q) : tUn r ta σ H Q := h
theorem s_U {g : Int → V} {i : Int} (q : Q (g i) H) : rU g (.int i) H Q := ⟨i, rfl, q⟩
theorem s_int1 {i : Int} (q : Q (.int i) H) : rInt1 [.int i] H Q := .inl ⟨i, rfl, q⟩
theorem s_int1b {b : Bool} (q : Q (.int (if b then 1 else 0)) H) : rInt1 [.bl b] H Q := .inr ⟨b, rfl, q⟩
theorem s_ixL {p : Addr} {xs : List V} {i : Int} (h : SqL K H p xs) (a : atI xs i = some v) (q : Q v H) : rIxL K (.ref p) (.int i) H Q := ⟨p, xs, i, v, rfl, rfl, h, a, q⟩
theorem s_ixT {p : Addr} {xs : List V} {i : Int} (h : SqT K H p xs) (a : atI xs i = some v) (q : Q v H) : rIxT K (.ref p) (.int i) H Q := ⟨p, xs, i, v, rfl, rfl, h, a, q⟩
theorem s_len {p : Addr} {xs : List V} (h : SqL K H p xs) (q : Q (.int xs.length) H) : rLen K [V.ref p] H Q := ⟨p, xs, rfl, .inl h, q⟩
theorem s_lenT {p : Addr} {xs : List V} (h : SqT K H p xs) (q : Q (.int xs.length) H) : rLen K [V.ref p] H Q := ⟨p, xs, rfl, .inr h, q⟩
theorem s_max2 {i j : Int} (q : Q (.int (if j > i then j else i)) H) : rMax2 [.int i, .int j] H Q := ⟨i, j, rfl, q⟩
theorem s_min2 {i j : Int} (q : Q (.int (if j < i then j else i)) H) : rMin2 [.int i, .int j] H Q := ⟨i, j, rfl, q⟩
theorem s_isi {v : V} {n : String} {t : String} {b : Bool} (h : TyX K H v (.type t)) (e : kitB t n = some b) (q : Q (.bl b) H) : rIsi K [v, .ty n] H Q := ⟨v, .ty n, .type t, .type n, b, rfl, .ty n, h, kit_ty e, q⟩
theorem s_eqD {d e : PyData} (h1 : Dp K H x d) (h2 : Dp K H y e) (s1 : SeqAt.shaped d = true) (s2 : SeqAt.shaped e = true) (q : Q (.bl (PyData.eqv d e)) H) : rEqD K x y H Q := ⟨d, e, h1, h2, s1, s2, q⟩
theorem s_andV {c : Bool} (h : if c = true then tb σ H Q else Q (.bl false) H) : ∃ c', V.bl c = .bl c' ∧ if c' = true then tb σ H Q else Q (.bl false) H := ⟨c, rfl, h⟩
theorem s_andV0 (h : ta σ H fun x H1 => ∃ c, x = .bl c ∧ if c = true then tb σ H1 Q else Q (.bl false) H1) : tAndV ta tb σ H Q := h
theorem s_orV0 (h : ta σ H fun x H1 => ∃ c, x = .bl c ∧ if c = true then Q (.bl true) H1 else tb σ H1 Q) : tOrV ta tb σ H Q := h
theorem s_notV (h : ta σ H fun x H1 => ∃ c, x = .bl c ∧ Q (.bl (!c)) H1) : tNotV ta σ H Q := h
theorem s_b {c : Bool} {R : Bool → Prop} (h : R c) : ∃ c', V.bl c = V.bl c' ∧ R c' := ⟨c, rfl, h⟩
theorem s_gtup {n : Nat} {t : TGs} {a : Addr} {xs : List V} {R : L2.St → Hp → Prop} (h : SqT K H a xs) (e : xs.length = n) (q : t xs σ H R) : gTup K n t (.ref a) σ H R := ⟨a, xs, rfl, h, e, q⟩
theorem s_gcons {t : TG} {u : TGs} {r : List V} {R : L2.St → Hp → Prop} (q : t v σ H fun σ' H' => u r σ' H' R) : gCons t u (v :: r) σ H R := ⟨v, r, rfl, q⟩
theorem s_gnil {R : L2.St → Hp → Prop} (q : R σ H) : gNil [] σ H R := ⟨rfl, q⟩
theorem s_gsub {to ti : TE} {t : TSet} {R : L2.St → Hp → Prop} (h : to σ H fun o H1 => ti σ H1 fun i H2 => t o i v H2 fun H3 => R σ H3) : gSub to ti t v σ H R := h
theorem s_setL {p : Addr} {xs : List V} {i : Int} {j : Nat} {R : Hp → Prop} (h : H p = some (.lst xs)) (e : ixN xs.length i = some j) (q : R (upd H p (.lst (xs.set j v)))) : rSetL (.ref p) (.int i) v H R := ⟨p, xs, i, j, rfl, rfl, h, e, q⟩
theorem s_ifE {t : TT} (h : t σ H fun c H1 => if c = true then ta σ H1 Q else tb σ H1 Q) : tIf t ta tb σ H Q := h
variable {D : Ends} {t u : TS}
theorem s_seq (h : t { D with nx := u D } σ H) : tSeq t u D σ H := h
theorem s_next (h : D.nx σ H) : tNext D σ H := h
theorem s_asg {g : TG} (h : ta σ H fun x H1 => g x σ H1 D.nx) : tAsg ta g D σ H := h
theorem s_gname {R : L2.St → Hp → Prop} (h : R (σ.set i (some v)) H) : gName i v σ H R := h
theorem s_ret (h : ta σ H D.rt) : tRet ta D σ H := h
theorem s_if {c : TT} (h : c σ H fun b H1 => if b = true then t D σ H1 else u D σ H1) : tIfS c t u D σ H := h
theorem s_drop (h : ta σ H fun _ H1 => D.nx σ H1) : tDrop ta D σ H := h
/-- a loop over what stands -/
def forT (J : It) (g : TG) (tb : TS) : TS := tFor (fun _ H R => R J H) g tb
theorem s_for {wi : TI} {g : TG} {tb : TS} (h : wi σ H fun J H1 => forT J g tb D σ H1) : tFor wi g tb D σ H := h
theorem s_iR1 {ta : TA} {R : It → Hp → Prop} (h : ta σ H fun vs H1 => ∃ n : Int, vs = [.int n] ∧ -(2 ^ 62) ≤ n ∧ n < 2 ^ 62 ∧ R (Itr 0 n.toNat) H1) : iRng1 ta σ H R := h
theorem s_iR2 {ta : TA} {R : It → Hp → Prop} (h : ta σ H fun vs H1 => ∃ m n : Int, vs = [.int m, .int n] ∧ (-(2 ^ 62) ≤ m ∧ m < 2 ^ 62 ∧ -(2 ^ 62) ≤ n ∧ n < 2 ^ 62) ∧ R (Itr m (n - m).toNat) H1) : iRng2 ta σ H R := h
theorem s_iL {R : It → Hp → Prop} (h : ta σ H fun x H1 => ∃ a, x = .ref a ∧ (∃ xs, SqL K H1 a xs) ∧ R (Itl K a) H1) : iList K ta σ H R := h
theorem s_iT {R : It → Hp → Prop} (h : ta σ H fun x H1 => ∃ a, x = .ref a ∧ (∃ xs, SqT K H1 a xs) ∧ R (Itt K a) H1) : iTup K ta σ H R := h
theorem s_iS {R : It → Hp → Prop} (h : ta σ H fun x H1 => ∃ z, x = .str z ∧ R (Its z) H1) : iStr ta σ H R := h
theorem forW {J : It} {n : Nat} {G : Hp → Prop} {Y : Nat → Hp → V → Hp → Prop} {g : TG} {tb : TS} (w : Walk J n G Y) (Pv : Nat → L2.St → Hp → Prop) (h0 : Pv 0 σ H) (hG : ∀ i σ H, i ≤ n → Pv i σ H → G H)
    (hs : ∀ i x σ H H', i < n → Pv i σ H → Y i H x H' → g x σ H' fun σ2 H2 => tb { D with nx := Pv (i + 1), ct := Pv (i + 1), bk := D.nx } σ2 H2) (hd : ∀ σ H, Pv n σ H → D.nx σ H) : forT J g tb D σ H := for_it w Pv h0 hG hs hd
theorem forR {lo : Int} {n : Nat} {g : TG} {tb : TS} (Pv : Nat → L2.St → Hp → Prop) (h0 : Pv 0 σ H) (hs : ∀ i σ H, i < n → Pv i σ H → g (.int (lo + i)) σ H fun σ2 H2 => tb { D with nx := Pv (i + 1), ct := Pv (i + 1), bk := D.nx } σ2 H2)
    (hd : ∀ σ H, Pv n σ H → D.nx σ H) : forT (Itr lo n) g tb D σ H := for_range Pv h0 hs hd
theorem forL {a : Addr} {xs : List V} {g : TG} {tb : TS} (Pv : Nat → L2.St → Hp → Prop) (h0 : Pv 0 σ H) (hl : ∀ i σ H, i ≤ xs.length → Pv i σ H → SqL K H a xs)
    (hs : ∀ i x σ H, xs[i]? = some x → Pv i σ H → g x σ H fun σ2 H2 => tb { D with nx := Pv (i + 1), ct := Pv (i + 1), bk := D.nx } σ2 H2) (hd : ∀ σ H, Pv xs.length σ H → D.nx σ H) : forT (Itl K a) g tb D σ H := for_list Pv h0 hl hs hd
/-- a comprehension over what stands -/
def lcT (J : It) (g : TG) (tt : TT) (te : TE) (vs : List Nat) : TE := tLc (fun _ H R => R J H) g tt te vs
theorem s_lc {wi : TI} {g : TG} {tt : TT} {te : TE} {vs : List Nat} (h : wi σ H fun J H1 => lcT J g tt te vs σ H1 Q) : tLc wi g tt te vs σ H Q := h
theorem s_sl {r : V → Option Int → Option Int → Hp → VK → Prop} {tl th : TO} (h : ta σ H fun x H1 => tl σ H1 fun l H2 => th σ H2 fun u H3 => r x l u H3 Q) : tSl r ta tl th σ H Q := h
theorem s_part {R : Option Int → Hp → Prop} (h : ta σ H fun x H1 => ∃ i, x = .int i ∧ R (some i) H1) : tPart ta σ H R := h
theorem s_nopart {R : Option Int → Hp → Prop} (h : R none H) : tNoPart σ H R := h
theorem s_slL {p : Addr} {xs : List V} {l u : Option Int} (h : SqL K H p xs) (q : ∀ p', H p' = none → Q (.ref p') (upd H p' (.lst (cutV xs l u)))) : rSlL K (.ref p) l u H Q := ⟨p, xs, rfl, h, q⟩
theorem s_iR3 {ta : TA} {R : It → Hp → Prop} (h : ta σ H fun vs H1 => ∃ (i j c : Int) (n : Nat), vs = [.int i, .int j, .int c] ∧ RgC i j c n ∧ R (Itc i c n) H1) : iRng3 ta σ H R := h
theorem rgc_up {L k : Int} (hL : 0 ≤ L) (hL2 : L < 2 ^ 62) (hk : 0 < k) (hk2 : k < 1073741824) : RgC 0 L k ((L + k - 1) / k).toNat := by
  have e : Builtin.Range.rangeSize 0 L k = (((L + k - 1) / k).toNat : Int) := by
    unfold Builtin.Range.rangeSize
    rw [if_pos hk]
    have h0 : 0 ≤ (L + k - 1) / k := Int.ediv_nonneg (by omega) (by omega)
    split
    · rw [show L + k - 1 = (L - 0 - 1) + k by omega, Int.add_ediv_of_dvd_right (Int.dvd_refl k), Int.ediv_self (by omega)]
      have : 0 ≤ (L - 0 - 1) / k := Int.ediv_nonneg (by omega) (by omega)
      omega
    · have : L = 0 := by omega
      subst this
      rw [Int.ediv_eq_zero_of_lt (by omega) (by omega)]; rfl
  refine ⟨by omega, by omega, ?_, e⟩
  have hb : (L + k - 1) / k ≤ L + k - 1 := Int.ediv_le_self _ (by omega)
  unfold Builtin.Range.small
  rw [e]
  simp only [Builtin.Range.rangeFitsLong, Bool.and_eq_true, Bool.or_eq_true, decide_eq_true_eq, beq_iff_eq, show (k > 0) = True from eq_true hk, if_true]
  omega
theorem s_wipe {σ2 : L2.St} {vs : List Nat} {R : Prop} (h : wipe σ2 vs = wipe σ vs) (q : R) : wipe σ2 vs = wipe σ vs ∧ R := ⟨h, q⟩
theorem s_yes {Q : Bool → Hp → Prop} (q : Q true H) : tYes σ H Q := q
/-- within a comprehension: what has been made so far stands at D -/
structure LcP (S : Addr → Prop) (F H : Hp) (Dd : Addr) (R : Nat → List V → Hp → Hp → Prop) (i : Nat) (Hc : Hp) : Prop where
  ex : ∃ Fc acc, Stp S F H Fc Hc ∧ Fc Dd = none ∧ Hc Dd = some (.lst acc) ∧ acc.length ≤ i ∧ R i acc Fc Hc
  fresh : H Dd = none
theorem lcW {J : It} {n : Nat} {G : Hp → Prop} {Y : Nat → Hp → V → Hp → Prop} {g : TG} {tt : TT} {te : TE} {vs : List Nat} (w : Walk J n G Y) (S : Addr → Prop) (hF : Same F H) (hS : ∀ b, S b → ∃ o, H b = some o)
    (hG : ∀ F1 H1, Stp S F H F1 H1 → G H1) (R : Nat → List V → Hp → Hp → Prop) (hR : ∀ i acc F1 H1 d o, ¬ S d → F1 d = none → Stp S F H F1 H1 → R i acc F1 H1 → R i acc F1 (upd H1 d o)) (h0 : R 0 [] F H)
    (hs : ∀ i x acc d F1 H1 H2, i < n → Y i H1 x H2 → H d = none → ¬ S d → Stp S F H F1 H1 → F1 d = none → H1 d = some (.lst acc) → acc.length ≤ i → R i acc F1 H1 → g x (wipe σ vs) H2 fun σ2 H3 => wipe σ2 vs = wipe σ vs ∧ tt σ2 H3 fun b H4 =>
      if b = true then te σ2 H4 fun y H5 => ∃ acc', H5 d = some (.lst acc') ∧ acc'.length < sizeLine ∧ LcP S F H d R (i + 1) (upd H5 d (.lst (acc' ++ [y]))) else LcP S F H d R (i + 1) H4)
    (hd : ∀ d acc F0 F1 H1, Stp S F H F0 H1 → H d = none → F0 d = none → F1 = upd F0 d (.lst acc) → Stp S F H F1 H1 → acc.length ≤ n → R n acc F0 H1 → Q (.ref d) H1) : lcT J g tt te vs σ H Q := by
  intro d hd0
  have nS : ¬ S d := fun z => by
    obtain ⟨o, e⟩ := hS d z
    rw [hd0] at e; cases e
  refine lc_it w (LcP S F H d R) ⟨⟨F, [], Stp.cell hF hd0, hF.free hd0, upd_same, Nat.le_refl _, hR 0 [] F H d _ nS (hF.free hd0) (.rfl' hF) h0⟩, hd0⟩ (fun i H1 _ p => ?_) (fun i x H1 H2 hi p y => ?_) (fun H1 p => ?_)
  · obtain ⟨⟨Fc, acc, st, _⟩, _⟩ := p
    exact hG _ _ st
  · obtain ⟨⟨Fc, acc, st, f0, e, hl, r⟩, _⟩ := p
    exact hs i x acc d Fc H1 H2 hi y hd0 nS st f0 e hl r
  · obtain ⟨⟨Fc, acc, st, f0, e, hl, r⟩, _⟩ := p
    exact hd d acc Fc _ H1 st hd0 f0 rfl (st.freeze hd0 e f0) hl r
theorem lc_end {S : Addr → Prop} {R : Nat → List V → Hp → Hp → Prop} {i : Nat} {acc : List V} {d : Addr} {F1 H1 F4 H4 : Hp} {y : V} (hN : H d = none) (nS : ¬ S d) (st : Stp S F H F1 H1) (f0 : F1 d = none) (e : H1 d = some (.lst acc)) (hl : acc.length ≤ i) (hi : i < 100000)
    (s4 : Stp S F1 H1 F4 H4) (r : R (i + 1) (acc ++ [y]) F4 (upd H4 d (.lst (acc ++ [y])))) : ∃ acc', H4 d = some (.lst acc') ∧ acc'.length < sizeLine ∧ LcP S F H d R (i + 1) (upd H4 d (.lst (acc' ++ [y]))) :=
  ⟨acc, s4.keep _ _ nS e, Nat.lt_of_lt_of_le (Nat.lt_of_le_of_lt hl hi) (by decide), ⟨⟨F4, acc ++ [y], (st.trans s4).wrNew hN ((s4.fo _ _ e).trans f0), (s4.fo _ _ e).trans f0, upd_same, by simp; omega, r⟩, hN⟩⟩
theorem lc_skip {S : Addr → Prop} {R : Nat → List V → Hp → Hp → Prop} {i : Nat} {acc : List V} {d : Addr} {F1 H1 F4 H4 : Hp} (hN : H d = none) (nS : ¬ S d) (st : Stp S F H F1 H1) (f0 : F1 d = none) (e : H1 d = some (.lst acc)) (hl : acc.length ≤ i)
    (s4 : Stp S F1 H1 F4 H4) (r : R (i + 1) acc F4 H4) : LcP S F H d R (i + 1) H4 := ⟨⟨F4, acc, st.trans s4, (s4.fo _ _ e).trans f0, s4.keep _ _ nS e, by omega, r⟩, hN⟩
theorem ifd {p A B : Prop} [Decidable p] (a : p → A) (b : ¬ p → B) : if decide p = true then A else B := by
  by_cases h : p
  · rw [if_pos (decide_eq_true h)]; exact a h
  · rw [if_neg (by simp [h])]; exact b h
theorem itNF {A B : Prop} (h : B) : if (!true) = true then A else B := h
theorem itNT {A B : Prop} (h : A) : if (!false) = true then A else B := h
theorem ifn {p A B : Prop} [Decidable p] (a : p → B) (b : ¬ p → A) : if (!decide p) = true then A else B := by
  by_cases h : p
  · rw [if_neg (by simp [h])]; exact a h
  · rw [if_pos (by simp [h])]; exact b h
end
theorem eqv_ints (u v : Int) : PyData.eqv (.tuple [.int u, .int v]) (.tuple [.int u, .int v]) = true := by simp [PyData.eqv, PyData.eqvAll]
/-! ### tests that may be weakened (for while) -/
def MonE (t : TE) : Prop := ∀ σ H (Q Q' : VK), (∀ v H1, Q v H1 → Q' v H1) → t σ H Q → t σ H Q'
def MonT (t : TT) : Prop := ∀ σ H (Q Q' : Bool → Hp → Prop), (∀ b H1, Q b H1 → Q' b H1) → t σ H Q → t σ H Q'
def MonA (t : TA) : Prop := ∀ σ H (Q Q' : List V → Hp → Prop), (∀ vs H1, Q vs H1 → Q' vs H1) → t σ H Q → t σ H Q'
def MonR (r : R2) : Prop := ∀ x y H (Q Q' : VK), (∀ v H1, Q v H1 → Q' v H1) → r x y H Q → r x y H Q'
theorem mon_var {i : Nat} : MonE (tVar i) := fun _ _ _ _ h ⟨v, e, q⟩ => ⟨v, e, h _ _ q⟩
theorem mon_c {v : V} : MonE (tC v) := fun _ _ _ _ h q => h _ _ q
theorem mon_op {r : R2} {a b : TE} (hr : MonR r) (ha : MonE a) (hb : MonE b) : MonE (tOp r a b) := fun σ _ _ _ h q => ha _ _ _ _ (fun x H1 q1 => hb _ _ _ _ (fun y H2 q2 => hr _ _ _ _ _ h q2) q1) q
theorem mon_I0 {g : Int → Int → V} : MonR (rI0 g) := fun _ _ _ _ _ h ⟨i, j, e1, e2, q⟩ => ⟨i, j, e1, e2, h _ _ q⟩
theorem mon_I {C : Int → Int → Prop} {g : Int → Int → V} : MonR (rI C g) := fun _ _ _ _ _ h ⟨i, j, e1, e2, c, q⟩ => ⟨i, j, e1, e2, c, h _ _ q⟩
theorem mon_eq : MonR rEq := fun _ _ _ _ _ h ⟨e, q⟩ => ⟨e, h _ _ q⟩
theorem mon_ne : MonR rNe := fun _ _ _ _ _ h ⟨e, q⟩ => ⟨e, h _ _ q⟩
theorem mon_ixL {K : PySem.W.Frag} : MonR (rIxL K) := fun _ _ _ _ _ h ⟨p, xs, i, v, e1, e2, s, a, q⟩ => ⟨p, xs, i, v, e1, e2, s, a, h _ _ q⟩
theorem mon_nil : MonA tNil := fun _ _ _ _ h q => h _ _ q
theorem mon_cons {a : TE} {t : TA} (ha : MonE a) (ht : MonA t) : MonA (tCons a t) := fun σ _ _ _ h q => ha _ _ _ _ (fun x H1 q1 => ht _ _ _ _ (fun xs H2 q2 => h _ _ q2) q1) q
theorem mon_len {K : PySem.W.Frag} {t : TA} (ht : MonA t) : MonE (tCB (rLen K) t) := fun σ _ _ _ h q => ht _ _ _ _ (fun vs H1 ⟨p, ys, e, s, q1⟩ => ⟨p, ys, e, s, h _ _ q1⟩) q
theorem mon_test {a : TE} (ha : MonE a) : MonT (tTest a) := fun σ _ _ _ h q => ha _ _ _ _ (fun x H1 ⟨k, e, q1⟩ => ⟨k, e, h _ _ q1⟩) q
theorem mon_and {a b : TT} (ha : MonT a) (hb : MonT b) : MonT (tAnd a b) := fun σ _ _ _ h q => ha _ _ _ _ (fun c H1 q1 => by
  cases c with
  | true => exact hb _ _ _ _ h q1
  | false => exact h _ _ q1) q
theorem whileM {D : Ends} {σ : L2.St} {H : Hp} {c : TT} {tb : TS} (m : MonT c) (Pv : L2.St → Hp → Prop) (μ : L2.St → Hp → Nat) (h0 : Pv σ H)
    (hs : ∀ σ H, Pv σ H → c σ H fun b H1 => if b = true then tb { D with nx := fun σ' H' => Pv σ' H' ∧ μ σ' H' < μ σ H, ct := fun σ' H' => Pv σ' H' ∧ μ σ' H' < μ σ H, bk := D.nx } σ H1 else D.nx σ H1) : tWhile c tb D σ H := while_by Pv μ h0 hs m
/-! ### data compared: lists and tuples of numbers -/
open PyData in
theorem depthAll_ints : ∀ ns : List Int, depthAll (ns.map PyData.int) ≤ 1
  | [] => by simp [depthAll]
  | n :: ns => by
    have := depthAll_ints ns
    simp only [List.map_cons, depthAll, depth]
    omega
open PyData in
theorem canLay_ints : ∀ ns : List Int, canLayAll0 (ns.map PyData.int) = true
  | [] => rfl
  | n :: ns => by simp [canLayAll0, canLay0, canLay_ints ns]
theorem shaped_ints (ns : List Int) : SeqAt.shaped (.list (ns.map .int)) = true := by
  have h := depthAll_ints ns
  have e : (PyData.list (ns.map .int)).depth = PyData.depthAll (ns.map .int) + 1 := by rw [PyData.depth]
  exact Bool.and_eq_true_iff.mpr ⟨by rw [PyData.canLay0]; exact canLay_ints ns, decide_eq_true (by rw [e]; omega)⟩
theorem shaped_intsT (ns : List Int) : SeqAt.shaped (.tuple (ns.map .int)) = true := by
  have h := depthAll_ints ns
  have e : (PyData.tuple (ns.map .int)).depth = PyData.depthAll (ns.map .int) + 1 := by rw [PyData.depth]
  exact Bool.and_eq_true_iff.mpr ⟨by rw [PyData.canLay0]; exact canLay_ints ns, decide_eq_true (by rw [e]; omega)⟩
open PyData in
theorem eqvAll_ints : ∀ ns ms : List Int, eqvAll (ns.map PyData.int) (ms.map PyData.int) = decide (ns = ms)
  | [], [] => rfl
  | [], _ :: _ => by simp [eqvAll]
  | _ :: _, [] => by simp [eqvAll]
  | n :: ns, m :: ms => by
    simp only [List.map_cons, eqvAll, eqv, eqvAll_ints ns ms]
    by_cases h : n = m <;> by_cases h2 : ns = ms <;> simp [h, h2]
theorem eqv_intsL (ns ms : List Int) : PyData.eqv (.list (ns.map .int)) (.list (ms.map .int)) = decide (ns = ms) := by rw [PyData.eqv, eqvAll_ints]
theorem eqv_intsT (ns ms : List Int) : PyData.eqv (.tuple (ns.map .int)) (.tuple (ms.map .int)) = decide (ns = ms) := by rw [PyData.eqv, eqvAll_ints]
theorem dp_all_ints {K : PySem.W.Frag} {H : Hp} : ∀ ns : List Int, DpAll K H (ns.map V.int) (ns.map .int)
  | [] => .nil
  | n :: ns => .cons (.int n) (dp_all_ints ns)
theorem dp_ints {K : PySem.W.Frag} {H : Hp} {a : Addr} {ns : List Int} (h : SqL K H a (ns.map V.int)) : Dp K H (.ref a) (.list (ns.map .int)) := .lst h (dp_all_ints ns)
theorem dp_intsT {K : PySem.W.Frag} {H : Hp} {a : Addr} {ns : List Int} (h : SqT K H a (ns.map V.int)) : Dp K H (.ref a) (.tuple (ns.map .int)) := .tup h (dp_all_ints ns)
/-- two lists of numbers compared -/
theorem s_eqL {K : PySem.W.Frag} {H : Hp} {Q : VK} {a b : Addr} {ns ms : List Int} (h1 : SqL K H a (ns.map V.int)) (h2 : SqL K H b (ms.map V.int)) (q : Q (.bl (decide (ns = ms))) H) : rEqD K (.ref a) (.ref b) H Q :=
  s_eqD (dp_ints h1) (dp_ints h2) (shaped_ints _) (shaped_ints _) (by rw [eqv_intsL]; exact q)
theorem s_neL {K : PySem.W.Frag} {H : Hp} {Q : VK} {a b : Addr} {ns ms : List Int} (h1 : SqL K H a (ns.map V.int)) (h2 : SqL K H b (ms.map V.int)) (q : Q (.bl (!decide (ns = ms))) H) : rNeD K (.ref a) (.ref b) H Q :=
  ⟨_, _, dp_ints h1, dp_ints h2, shaped_ints _, shaped_ints _, by rw [eqv_intsL]; exact q⟩
theorem s_eqT {K : PySem.W.Frag} {H : Hp} {Q : VK} {a b : Addr} {ns ms : List Int} (h1 : SqT K H a (ns.map V.int)) (h2 : SqT K H b (ms.map V.int)) (q : Q (.bl (decide (ns = ms))) H) : rEqD K (.ref a) (.ref b) H Q :=
  s_eqD (dp_intsT h1) (dp_intsT h2) (shaped_intsT _) (shaped_intsT _) (by rw [eqv_intsT]; exact q)
theorem s_neT {K : PySem.W.Frag} {H : Hp} {Q : VK} {a b : Addr} {ns ms : List Int} (h1 : SqT K H a (ns.map V.int)) (h2 : SqT K H b (ms.map V.int)) (q : Q (.bl (!decide (ns = ms))) H) : rNeD K (.ref a) (.ref b) H Q :=
  ⟨_, _, dp_intsT h1, dp_intsT h2, shaped_intsT _, shaped_intsT _, by rw [eqv_intsT]; exact q⟩
theorem rep_int (n k : Nat) (b : Int) : (List.replicate n [V.int b]).flatten = (List.replicate n b).map V.int := by induction n <;> simp_all [List.replicate_succ]
theorem get_int {ns : List Int} {i : Nat} (h : i < ns.length) : (ns.map V.int)[i]? = some (V.int ns[i]) := by simp [h]
/-- what a call left behind: a new thing that stands still from now on -/
theorem Stp.got {S : Addr → Prop} {F H H' : Hp} {p : Addr} {o : HO} (h : Same F H) (s : Same H H') (hn : H p = none) (hp : H' p = some o) : Stp S F H (upd F p o) H' := by
  have fp : F p = none := h.free hn
  refine ⟨fun b u e => by rw [upd_ne (ne_of_none e fp)]; exact e, fun b u e => ?_, fun b u e => by rw [upd_ne (ne_of_none e hn)], fun b u _ e => s b u e, fun b u e => ⟨u, s b u e⟩⟩
  by_cases q : b = p
  · subst q; rw [upd_same] at e; cases e; exact hp
  · rw [upd_ne q] at e; exact s b u (h b u e)
open PyData in
theorem depthAll_bools : ∀ ns : List Bool, depthAll (ns.map PyData.bool) ≤ 1
  | [] => by simp [depthAll]
  | n :: ns => by
    have := depthAll_bools ns
    simp only [List.map_cons, depthAll, depth]
    omega
open PyData in
theorem canLay_bools : ∀ ns : List Bool, canLayAll0 (ns.map PyData.bool) = true
  | [] => rfl
  | n :: ns => by simp [canLayAll0, canLay0, canLay_bools ns]
theorem shaped_bools (ns : List Bool) : SeqAt.shaped (.list (ns.map .bool)) = true := by
  have h := depthAll_bools ns
  have e : (PyData.list (ns.map .bool)).depth = PyData.depthAll (ns.map .bool) + 1 := by rw [PyData.depth]
  exact Bool.and_eq_true_iff.mpr ⟨by rw [PyData.canLay0]; exact canLay_bools ns, decide_eq_true (by rw [e]; omega)⟩
open PyData in
theorem eqvAll_bools : ∀ ns ms : List Bool, eqvAll (ns.map PyData.bool) (ms.map PyData.bool) = decide (ns = ms)
  | [], [] => rfl
  | [], _ :: _ => by simp [eqvAll]
  | _ :: _, [] => by simp [eqvAll]
  | n :: ns, m :: ms => by
    simp only [List.map_cons, eqvAll, eqv, eqvAll_bools ns ms]
    by_cases h : n = m <;> by_cases h2 : ns = ms <;> simp [h, h2]
theorem eqv_boolsL (ns ms : List Bool) : PyData.eqv (.list (ns.map .bool)) (.list (ms.map .bool)) = decide (ns = ms) := by rw [PyData.eqv, eqvAll_bools]
theorem dp_all_bools {K : PySem.W.Frag} {H : Hp} : ∀ ns : List Bool, DpAll K H (ns.map V.bl) (ns.map .bool)
  | [] => .nil
  | n :: ns => .cons (.bl n) (dp_all_bools ns)
theorem dp_bools {K : PySem.W.Frag} {H : Hp} {a : Addr} {ns : List Bool} (h : SqL K H a (ns.map V.bl)) : Dp K H (.ref a) (.list (ns.map .bool)) := .lst h (dp_all_bools ns)
theorem s_neB {K : PySem.W.Frag} {H : Hp} {Q : VK} {a b : Addr} {ns ms : List Bool} (h1 : SqL K H a (ns.map V.bl)) (h2 : SqL K H b (ms.map V.bl)) (q : Q (.bl (!decide (ns = ms))) H) : rNeD K (.ref a) (.ref b) H Q :=
  ⟨_, _, dp_bools h1, dp_bools h2, shaped_bools _, shaped_bools _, by rw [eqv_boolsL]; exact q⟩
theorem eqV_int (i j : Int) : eqV (.int i) (.int j) = decide (i = j) := by
  show (i == j) = decide (i = j)
  by_cases h : i = j <;> simp [h]
theorem inV_ints (x : Int) (ns : List Int) : inV (.int x) (ns.map V.int) = decide (x ∈ ns) := by
  unfold inV
  induction ns with
  | nil => simp
  | cons n ns ih =>
    rw [List.map_cons, List.any_cons, ih, eqV_int]
    by_cases h : n = x
    · subst h; simp
    · by_cases h2 : x ∈ ns
      · simp [h2]
      · have : ¬ x = n := fun z => h z.symm
        simp [h, h2, this]
theorem flat_ints (ns : List Int) : (ns.map V.int).all flatV = true := by
  rw [List.all_eq_true]; intro v hv
  obtain ⟨n, _, rfl⟩ := List.mem_map.mp hv
  rfl
/-- a number in a list of numbers -/
theorem s_inI {K : PySem.W.Frag} {H : Hp} {Q : VK} {a : Addr} {ns : List Int} {x : Int} (h : SqL K H a (ns.map V.int)) (q : Q (.bl (decide (x ∈ ns))) H) : rIn K false (.int x) (.ref a) H Q :=
  ⟨a, _, rfl, .inl h, rfl, flat_ints ns, by rw [if_neg (by decide), inV_ints]; exact q⟩
theorem cutV_nat (xs : List V) (i j : Nat) : cutV xs (some (i : Int)) (some (j : Int)) = (xs.drop i).take (j - i) := by
  unfold cutV
  rw [HT.sIx_nat, HT.sIx_nat]
  by_cases h : i ≤ xs.length
  · rw [Nat.min_eq_left h]
    by_cases h2 : j ≤ xs.length
    · rw [Nat.min_eq_left h2]
    · rw [Nat.min_eq_right (by omega), List.take_of_length_le (by simp), List.take_of_length_le (by simp; omega)]
  · rw [Nat.min_eq_right (show xs.length ≤ i by omega), List.drop_of_length_le (Nat.le_refl _), List.drop_of_length_le (by omega)]; simp
theorem cutV_from (xs : List V) (i : Nat) : cutV xs (some (i : Int)) none = xs.drop i := by
  unfold cutV
  rw [HT.sIx_nat, HT.sIx_none]
  by_cases h : i ≤ xs.length
  · rw [Nat.min_eq_left h, List.take_of_length_le (by simp)]
  · rw [Nat.min_eq_right (by omega), List.drop_of_length_le (by omega), List.drop_of_length_le (by omega)]; simp
theorem cutV_to (xs : List V) (j : Nat) : cutV xs none (some (j : Int)) = xs.take j := by
  unfold cutV
  rw [HT.sIx_nat, HT.sIx_none]
  by_cases h2 : j ≤ xs.length
  · rw [Nat.min_eq_left h2]; simp
  · rw [Nat.min_eq_right (by omega), List.take_of_length_le (by simp), List.take_of_length_le (by omega)]; simp
/-- values without parts, as data -/
def toD : V → PyData
  | .bl b => .bool b
  | .int i => .int i
  | .str s => .str s
  | _ => .none
def flatW (v : V) : Bool := match v with
  | .non => true
  | .bl _ => true
  | .int _ => true
  | .str s => PyData.strOk s
  | _ => false
theorem dp_flat {K : PySem.W.Frag} {H : Hp} {v : V} (h : flatW v = true) : Dp K H v (toD v) := by
  cases v with
  | non => exact .non
  | bl b => exact .bl b
  | int i => exact .int i
  | str s => exact .str s
  | _ => cases h
theorem dp_flats {K : PySem.W.Frag} {H : Hp} : ∀ {vs : List V}, vs.all flatW = true → DpAll K H vs (vs.map toD)
  | [], _ => .nil
  | v :: vs, h => by
    rw [List.all_cons, Bool.and_eq_true] at h
    exact .cons (dp_flat h.1) (dp_flats h.2)
open PyData in
theorem depthAll_flat : ∀ vs : List V, depthAll (vs.map toD) ≤ 1
  | [] => by simp [depthAll]
  | n :: ns => by
    have := depthAll_flat ns
    have e : depth (toD n) = 0 := by cases n <;> simp [toD, depth]
    simp only [List.map_cons, depthAll, e]
    omega
open PyData in
theorem canLay_flat : ∀ vs : List V, vs.all flatW = true → canLayAll0 (vs.map toD) = true
  | [], _ => rfl
  | n :: ns, h => by
    rw [List.all_cons, Bool.and_eq_true] at h
    have e : canLay0 (toD n) = true := by
      cases n with
      | str s => exact h.1
      | _ => rfl
    simp [canLayAll0, e, canLay_flat ns h.2]
theorem shaped_flatT {vs : List V} (h : vs.all flatW = true) : SeqAt.shaped (.tuple (vs.map toD)) = true := by
  have h1 := depthAll_flat vs
  have e : (PyData.tuple (vs.map toD)).depth = PyData.depthAll (vs.map toD) + 1 := by rw [PyData.depth]
  exact Bool.and_eq_true_iff.mpr ⟨by rw [PyData.canLay0]; exact canLay_flat vs h, decide_eq_true (by rw [e]; omega)⟩
/-- two equal tuples compared -/
theorem s_neTs {K : PySem.W.Frag} {H : Hp} {Q : VK} {a b : Addr} {vs : List V} (h1 : SqT K H a vs) (h2 : SqT K H b vs) (f : vs.all flatW = true) (q : Q (.bl false) H) : rNeD K (.ref a) (.ref b) H Q :=
  ⟨_, _, .tup h1 (dp_flats f), .tup h2 (dp_flats f), shaped_flatT f, shaped_flatT f, by rw [SeqAt.eqv_refl _ (SeqAt.canLay_of_shaped (shaped_flatT f))]; exact q⟩
theorem s_eqTs {K : PySem.W.Frag} {H : Hp} {Q : VK} {a b : Addr} {vs : List V} (h1 : SqT K H a vs) (h2 : SqT K H b vs) (f : vs.all flatW = true) (q : Q (.bl true) H) : rEqD K (.ref a) (.ref b) H Q :=
  ⟨_, _, .tup h1 (dp_flats f), .tup h2 (dp_flats f), shaped_flatT f, shaped_flatT f, by rw [SeqAt.eqv_refl _ (SeqAt.canLay_of_shaped (shaped_flatT f))]; exact q⟩
/-- a written list of one thing, so many times -/
theorem s_rep {H : Hp} {Q : VK} {l : Addr} {v : V} {k : Int} (h : H l = some (.lst [v])) (k1 : k ≤ 100000) (k0 : -100000 ≤ k) (q : ∀ p, H p = none → Q (.ref p) (upd H p (.lst (List.replicate k.toNat v)))) : rRep (.ref l) (.int k) H Q := by
  have e : (List.replicate k.toNat [v]).flatten = List.replicate k.toNat v := by
    generalize k.toNat = n
    induction n with
    | zero => rfl
    | succ n ih => rw [List.replicate_succ, List.flatten_cons, ih]; rfl
  have hz : 1 * k.toNat ≤ sizeLine := by rw [Nat.one_mul]; exact sz (by omega)
  exact ⟨l, k, [v], rfl, rfl, h, by omega, by omega, hz, fun p hp => by rw [e]; exact q p hp⟩
/-- lists of lists of numbers -/
def RowV (K : PySem.W.Frag) (H : Hp) (v : V) (l : List Int) : Prop := ∃ a, v = .ref a ∧ SqL K H a (l.map V.int)
inductive RowsV (K : PySem.W.Frag) (H : Hp) : List V → List (List Int) → Prop
  | nil : RowsV K H [] []
  | cons {v : V} {vs : List V} {l : List Int} {ls : List (List Int)} : RowV K H v l → RowsV K H vs ls → RowsV K H (v :: vs) (l :: ls)
theorem RowsV.dp {K : PySem.W.Frag} {H : Hp} : ∀ {vs : List V} {ls : List (List Int)}, RowsV K H vs ls → DpAll K H vs (ls.map fun l => .list (l.map .int))
  | _, _, .nil => .nil
  | _, _, .cons ⟨a, e, h⟩ r => .cons (e ▸ dp_ints h) r.dp
open PyData in
theorem depthAll_rows : ∀ ls : List (List Int), depthAll (ls.map fun l => PyData.list (l.map .int)) ≤ 2
  | [] => by simp [depthAll]
  | l :: ls => by
    have h1 := depthAll_rows ls
    have h2 := depthAll_ints l
    simp only [List.map_cons, depthAll, depth]
    omega
open PyData in
theorem canLay_rows : ∀ ls : List (List Int), canLayAll0 (ls.map fun l => PyData.list (l.map .int)) = true
  | [] => rfl
  | l :: ls => by simp [canLayAll0, canLay0, canLay_ints, canLay_rows ls]
theorem shaped_rows (ls : List (List Int)) : SeqAt.shaped (.list (ls.map fun l => .list (l.map .int))) = true := by
  have h := depthAll_rows ls
  have e : (PyData.list (ls.map fun l => PyData.list (l.map .int))).depth = PyData.depthAll (ls.map fun l => PyData.list (l.map .int)) + 1 := by rw [PyData.depth]
  exact Bool.and_eq_true_iff.mpr ⟨by rw [PyData.canLay0]; exact canLay_rows ls, decide_eq_true (by rw [e]; omega)⟩
theorem s_eqRows {K : PySem.W.Frag} {H : Hp} {Q : VK} {a b : Addr} {xs ys : List V} {ls : List (List Int)} (h1 : SqL K H a xs) (h2 : SqL K H b ys) (r1 : RowsV K H xs ls) (r2 : RowsV K H ys ls) (q : Q (.bl true) H) : rEqD K (.ref a) (.ref b) H Q :=
  s_eqD (.lst h1 r1.dp) (.lst h2 r2.dp) (shaped_rows ls) (shaped_rows ls) (by rw [SeqAt.eqv_refl _ (SeqAt.canLay_of_shaped (shaped_rows ls))]; exact q)
theorem s_neRows {K : PySem.W.Frag} {H : Hp} {Q : VK} {a b : Addr} {xs ys : List V} {ls : List (List Int)} (h1 : SqL K H a xs) (h2 : SqL K H b ys) (r1 : RowsV K H xs ls) (r2 : RowsV K H ys ls) (q : Q (.bl false) H) : rNeD K (.ref a) (.ref b) H Q :=
  ⟨_, _, .lst h1 r1.dp, .lst h2 r2.dp, shaped_rows ls, shaped_rows ls, by rw [SeqAt.eqv_refl _ (SeqAt.canLay_of_shaped (shaped_rows ls))]; exact q⟩
/-- lists of flat tuples -/
def TupV (K : PySem.W.Frag) (H : Hp) (v : V) (l : List V) : Prop := ∃ a, v = .ref a ∧ SqT K H a l ∧ l.all flatW = true
inductive TupsV (K : PySem.W.Frag) (H : Hp) : List V → List (List V) → Prop
  | nil : TupsV K H [] []
  | cons {v : V} {vs : List V} {l : List V} {ls : List (List V)} : TupV K H v l → TupsV K H vs ls → TupsV K H (v :: vs) (l :: ls)
theorem TupsV.dp {K : PySem.W.Frag} {H : Hp} : ∀ {vs : List V} {ls : List (List V)}, TupsV K H vs ls → DpAll K H vs (ls.map fun l => .tuple (l.map toD))
  | _, _, .nil => .nil
  | _, _, .cons ⟨_, e, h, f⟩ r => .cons (e ▸ .tup h (dp_flats f)) r.dp
open PyData in
theorem depthAll_tups : ∀ ls : List (List V), depthAll (ls.map fun l => PyData.tuple (l.map toD)) ≤ 2
  | [] => by simp [depthAll]
  | l :: ls => by
    have h1 := depthAll_tups ls
    have h2 := depthAll_flat l
    simp only [List.map_cons, depthAll, depth]
    omega
open PyData in
theorem canLay_tups {K : PySem.W.Frag} {H : Hp} : ∀ {vs : List V} {ls : List (List V)}, TupsV K H vs ls → canLayAll0 (ls.map fun l => PyData.tuple (l.map toD)) = true
  | _, _, .nil => rfl
  | _, _, .cons ⟨_, _, _, f⟩ r => by simp [canLayAll0, canLay0, canLay_flat _ f, canLay_tups r]
theorem shaped_tups {K : PySem.W.Frag} {H : Hp} {vs : List V} {ls : List (List V)} (r : TupsV K H vs ls) : SeqAt.shaped (.list (ls.map fun l => .tuple (l.map toD))) = true := by
  have h := depthAll_tups ls
  have e : (PyData.list (ls.map fun l => PyData.tuple (l.map toD))).depth = PyData.depthAll (ls.map fun l => PyData.tuple (l.map toD)) + 1 := by rw [PyData.depth]
  exact Bool.and_eq_true_iff.mpr ⟨by rw [PyData.canLay0]; exact canLay_tups r, decide_eq_true (by rw [e]; omega)⟩
theorem s_eqTups {K : PySem.W.Frag} {H : Hp} {Q : VK} {a b : Addr} {xs ys : List V} {ls : List (List V)} (h1 : SqL K H a xs) (h2 : SqL K H b ys) (r1 : TupsV K H xs ls) (r2 : TupsV K H ys ls) (q : Q (.bl true) H) : rEqD K (.ref a) (.ref b) H Q :=
  s_eqD (.lst h1 r1.dp) (.lst h2 r2.dp) (shaped_tups r1) (shaped_tups r2) (by rw [SeqAt.eqv_refl _ (SeqAt.canLay_of_shaped (shaped_tups r1))]; exact q)
theorem s_neTups {K : PySem.W.Frag} {H : Hp} {Q : VK} {a b : Addr} {xs ys : List V} {ls : List (List V)} (h1 : SqL K H a xs) (h2 : SqL K H b ys) (r1 : TupsV K H xs ls) (r2 : TupsV K H ys ls) (q : Q (.bl false) H) : rNeD K (.ref a) (.ref b) H Q :=
  ⟨_, _, .lst h1 r1.dp, .lst h2 r2.dp, shaped_tups r1, shaped_tups r2, by rw [SeqAt.eqv_refl _ (SeqAt.canLay_of_shaped (shaped_tups r1))]; exact q⟩
/-! ### a list to draw from: [a great number, a number that is stirred] -/
def Src (F H : Hp) (p : Addr) : Prop := Same F H ∧ F p = none ∧ ∃ a b : Int, H p = some (.lst [.int a, .int b]) ∧ 0 ≤ b ∧ b < 2147483647
theorem Src.of {F H H' : Hp} {p : Addr} (h : Src F H p) (s : Same H H') : Src F H' p := let ⟨a, b, x, y, e, z⟩ := h; ⟨a.trans s, b, x, y, s _ _ e, z⟩
theorem Src.wr {F H : Hp} {p : Addr} {x y : Int} (h : Src F H p) (y0 : 0 ≤ y) (y1 : y < 2147483647) : Src F (upd H p (.lst [.int x, .int y])) p :=
  ⟨(Stp.wr (S := S1 p) h.1 rfl h.2.1).fh, h.2.1, x, y, upd_same, y0, y1⟩
theorem Src.weak {F F' H : Hp} {p : Addr} (h : Src F' H p) (s : Same F F') : Src F H p := let ⟨a, b, x⟩ := h; ⟨s.trans a, s.free b, x⟩
theorem Src.new {F H : Hp} {p q : Addr} {o : HO} (h : Src F H p) (hq : H q = none) : Src (upd F q o) (upd H q o) p := by
  obtain ⟨a, b, x, y, e, z⟩ := h
  have n : p ≠ q := ne_of_none e hq
  exact ⟨(Stp.new (S := S0) a hq).fh, by rw [upd_ne n]; exact b, x, y, by rw [upd_ne n]; exact e, z⟩
/-- a cell beside it is written -/
theorem Src.upd {F H : Hp} {p q : Addr} {o : HO} (h : Src F H p) (n : q ≠ p) (fq : F q = none) : Src F (upd H q o) p := by
  obtain ⟨a, b, x, y, e, z⟩ := h
  exact ⟨(Stp.wr (S := S1 q) a rfl fq).fh, b, x, y, by rw [upd_ne n.symm]; exact e, z⟩
theorem Src.dom {F H : Hp} {p : Addr} (h : Src F H p) : ∃ o, H p = some o := let ⟨_, _, x, y, e, _⟩ := h; ⟨_, e⟩
theorem Src.frz {F H : Hp} {p d : Addr} {o : HO} (h : Src F H p) (n : p ≠ d) (fh : Same (L2.upd F d o) H) : Src (L2.upd F d o) H p := by
  obtain ⟨a, b, x, y, e, z⟩ := h
  exact ⟨fh, by rw [upd_ne n]; exact b, x, y, e, z⟩
theorem Src.ne {F H : Hp} {p d : Addr} (h : Src F H p) (hd : H d = none) : p ≠ d := by
  obtain ⟨o, e⟩ := h.dom
  exact ne_of_none e hd
/-- behind a draw: what stands beside the cell is as it was -/
def Drawn (p : Addr) (F H H' : Hp) : Prop := Src F H' p ∧ Stp (S1 p) F H F H'
section SecFmt
open PySem PySem.Spec PyProof.Rows L2
/-- the binary digits of a number that is not negative, as a text -/
def binText (n : Nat) : Str := ⟨((Nat.toDigits 2 n).map Char.toNat).toArray⟩
def fB : Builtin.Float.FormatSpec := { align := 62, type := some 98 }
theorem parseB : Builtin.Float.parseFormatSpec (Str.ofString "b").cps.toList "int" 62 = Except.ok fB := by rfl
section
variable {prog : Program} {w : World} {A : Around} {E : Value → Shared → Prop} {s : Shared}
theorem ite_no {β : Type} {M : Model} {c : Prop} [Decidable c] {x y : Sem β} {Q : β → Shared → Prop} (h : ¬ c) (q : wpAny M A y Q E s) : wpAny M A (if c then x else y) Q E s := by rw [if_neg h]; exact q
theorem field_b {a : Int} {t : Tok} {Q : Value → Shared → Prop} (h0 : 0 ≤ a) (hl : (Nat.toDigits 2 a.natAbs).length ≤ 100000)
    (h : Q (.str (binText a.natAbs) (s.toks + 1)) { s with toks := s.toks + 1 + 1 }) : wpAny (model prog w) A (formatField (.int a t) (Str.ofString "b")) Q E s := by
  show wpAny _ _ (holding [.int a t] (pyFormat (.int a t) (Str.ofString "b"))) Q E s
  refine wpAny_holding ?_
  unfold pyFormat
  refine wpAny_bind (wpAny_mkStr ?_ (by decide))
  refine wpAny_bind (m := callSpecial? (.int a t) (Str.ofString "__format__") [.str (Str.ofString "b") s.toks])
    (wpAny_callSpecial?_slot (name := Str.ofString "__format__") (typeIs_int _ a t) slot_int_format ?_)
  refine wpAny_call (codeAny_call_builtin slot_int_format.plain entry_int_format
    (slot_int_format.check _ _ _ _ _ _ _ _ (typeIs_int _ a t) (args_int_format _ _) ?_))
  have hne : ((Str.ofString "b").length == 0) = false := by decide
  have hasc : (((Str.ofString "b").cps.toList.drop 1).any (· ≥ 128) || ((Str.ofString "b").cps.getD 0 0 ≥ 128 && !([60, 62, 61, 94] : List Nat).contains ((Str.ofString "b").cps.getD 1 0))) = false := by decide
  unfold Builtin.«int.__format__»
  simp only [selfAndOne, noKeywords, Builtin.Int.intOfSelf, asInt?, asStr?, List.isEmpty_nil, if_true, pure_bind, bind_pure, bind_assoc, hne, hasc, Bool.false_eq_true,
    if_false, show (Value.str (Str.ofString "b") s.toks == Value.none) = false from rfl]
  refine wpAny_bind (wpAny_typeNameOf (T := "str") (typeIs_str _ _ _) (by decide) fun _ => ?_)
  first | refine wpAny_bind (wpAny_typeNameOfCut_int ?_) | refine wpAny_bind (wpAny_typeNameOf_int ?_)
  simp only [parseB, fB]
  rw [if_pos (by decide)]
  simp only [Option.getD_some]
  show wpAny _ _ (retStr _) _ _ _
  unfold retStr
  have key : ∀ (x : Str), x = binText a.natAbs → x.length ≤ sizeLine ∧ Q (.str x (s.toks + 1)) { s with toks := s.toks + 1 + 1 } := fun x e => by
    subst e
    exact ⟨Nat.le_trans (by simpa [binText, Str.length] using hl) (by decide), h⟩
  refine wpAny_bind (wpAny_mkStr (wpAny_pure ?_) (key _ ?hs2).1)
  case hs2 =>
    conv => lhs; whnf
    have hneg : decide (a < 0) = false := by simpa using h0
    simp [hneg, binText]
  dsimp only
  refine wpAny_bind (wpAny_isInstance (typeIs_str _ _ _) isSubtype_str_str (wpAny_pure ?_))
  refine (key _ ?_).2
  conv => lhs; whnf
  have hneg : decide (a < 0) = false := by simpa using h0
  simp [hneg, binText]
end
section
variable {X : Cx}
/-- {n:b} -/
def tFmtB (te : TE) : TE := fun σ H Q => te σ H fun x H1 => ∃ i : Int, x = .int i ∧ 0 ≤ i ∧ (Nat.toDigits 2 i.natAbs).length ≤ 100000 ∧ Q (.str (binText i.natAbs)) H1
theorem pe_fmtB {e : Expr} {te : TE} {k : Nat} {p1 p2 pos : Pos} (he : PE X e te) : PE X (.FormattedValue e (-1) (some (.JoinedStr [.Constant (.str "b") k p1] p2)) pos) (tFmtB te) := by
  refine ⟨fun pins s σ H Q I h => ?_⟩
  refine wpAny_FormattedValue_spec (thn (he.run pins s σ H _ I h) fun v s1 hv => ?_)
  obtain ⟨x, H1, I1, r1, i, rfl, h0, hl, q⟩ := hv
  obtain ⟨t, rfl⟩ := r1
  have hp : PE X (.JoinedStr [.Constant (.str "b") k p1] p2) (tC (.str "b")) := pe_joined1 pe_str
  refine thn (hp.run pins s1 σ H1 (fun v H' => v = .str "b" ∧ H' = H1) I1 ⟨rfl, rfl⟩) fun r s2 hr => ?_
  obtain ⟨y, H2, I2, r2, rfl, rfl⟩ := hr
  obtain ⟨u, rfl⟩ := r2
  exact ⟨_, _, rfl, field_b h0 hl ⟨.str (binText i.natAbs), H2, I2.tok _, ⟨_, rfl⟩, q⟩⟩
end
end SecFmt
section SecBits
open PySem PySem.Spec PyProof.Rows L2
/-! ### binary digits -/
/-- the w lowest binary digits of n, the highest first -/
def fixL : Nat → Nat → List Int
  | 0, _ => []
  | w + 1, n => fixL w (n / 2) ++ [((n % 2 : Nat) : Int)]
theorem fixL_len : ∀ (w n : Nat), (fixL w n).length = w
  | 0, _ => rfl
  | w + 1, n => by rw [fixL, List.length_append, fixL_len w]; rfl
def isBit (b : Int) : Prop := b = 0 ∨ b = 1
theorem fixL_bit : ∀ (w n : Nat), ∀ b ∈ fixL w n, isBit b
  | 0, _, b, h => by simp [fixL] at h
  | w + 1, n, b, h => by
    rw [fixL, List.mem_append] at h
    rcases h with h | h
    · exact fixL_bit w _ b h
    · have : b = ((n % 2 : Nat) : Int) := by simpa using h
      have h2 : n % 2 < 2 := Nat.mod_lt _ (by decide)
      unfold isBit; omega
def code (b : Int) : Nat := (48 + b).toNat
def digs (n : Nat) : List Nat := (Nat.toDigits 2 n).map Char.toNat
theorem digs_small {n : Nat} (h : n < 2) : digs n = [48 + n] := by
  unfold digs; rw [Nat.toDigits_of_lt_base h]
  rcases (by omega : n = 0 ∨ n = 1) with rfl | rfl <;> rfl
theorem digs_step {n : Nat} (h : 2 ≤ n) : digs n = digs (n / 2) ++ [48 + n % 2] := by
  unfold digs; rw [Nat.toDigits_of_base_le (by decide) h, List.map_append]
  congr 1
  rcases (by omega : n % 2 = 0 ∨ n % 2 = 1) with e | e <;> rw [e] <;> rfl
theorem fixL_zero : ∀ w, (fixL w 0).map code = List.replicate w 48
  | 0 => rfl
  | w + 1 => by rw [fixL, List.map_append, fixL_zero w, List.replicate_succ']; rfl
theorem digs_fix : ∀ (w n : Nat), n < 2 ^ (w + 1) → (digs n).length ≤ w + 1 ∧ List.replicate (w + 1 - (digs n).length) 48 ++ digs n = (fixL (w + 1) n).map code
  | 0, n, h => by
    have h2 : n < 2 := by simpa using h
    rw [digs_small h2]
    rcases (by omega : n = 0 ∨ n = 1) with rfl | rfl <;> exact ⟨by decide, by decide⟩
  | w + 1, n, h => by
    by_cases h2 : n < 2
    · rw [digs_small h2]
      refine ⟨by simp, ?_⟩
      rw [fixL, List.map_append, show n / 2 = 0 by omega, fixL_zero]
      show List.replicate (w + 1) 48 ++ [48 + n] = _
      congr 1
      rcases (by omega : n = 0 ∨ n = 1) with rfl | rfl <;> rfl
    · have hp : n / 2 < 2 ^ (w + 1) := by rw [Nat.pow_succ] at h; omega
      obtain ⟨h3, h4⟩ := digs_fix w (n / 2) hp
      rw [digs_step (by omega), fixL, List.map_append, ← h4]
      refine ⟨by simp; omega, ?_⟩
      rw [List.length_append, List.length_singleton, show w + 1 + 1 - ((digs (n / 2)).length + 1) = w + 1 - (digs (n / 2)).length by omega, List.append_assoc]
      congr 2
theorem digs_head {n : Nat} : (digs n)[0]? = some 48 ∨ (digs n)[0]? = some 49 := by
  induction n using Nat.strongRecOn with
  | ind n ih =>
    by_cases h : n < 2
    · rw [digs_small h]; rcases (by omega : n = 0 ∨ n = 1) with rfl | rfl <;> simp
    · rw [digs_step (by omega)]
      have := ih (n / 2) (by omega)
      have hl : 0 < (digs (n / 2)).length := by
        cases e : digs (n / 2) with
        | nil => rw [e] at this; simp at this
        | cons => simp
      rw [List.getElem?_append_left hl]; exact this
theorem zfill_bin {w n : Nat} (h : n < 2 ^ (w + 1)) : (Txt.zfill (binText n) ((w + 1 : Nat) : Int)).cps.toList = (fixL (w + 1) n).map code := by
  obtain ⟨h1, h2⟩ := digs_fix w n h
  have hl : (binText n).length = (digs n).length := by simp [binText, Str.length, digs]
  have hc : (binText n).cps.toList = digs n := by simp [binText, digs]
  unfold Txt.zfill
  by_cases q : (((w + 1 : Nat) : Int) ≤ ((binText n).length : Int))
  · rw [if_pos q, hc, ← h2, show w + 1 - (digs n).length = 0 by omega]; rfl
  · rw [if_neg q]
    have e0 : ∀ x, (binText n).cps[0]? = some x → x ≠ 43 ∧ x ≠ 45 := fun x hx => by
      have : (digs n)[0]? = some x := by rw [← hc]; simpa using hx
      rcases digs_head (n := n) with z | z <;> rw [z] at this <;> cases this <;> decide
    unfold zfilled
    split
    · rename_i hx; exact absurd rfl (e0 _ hx).1
    · rename_i hx; exact absurd rfl (e0 _ hx).2
    · show (Array.replicate _ 48 ++ (binText n).cps ++ Array.replicate 0 48).toList = _
      rw [← h2]
      simp [hc, hl]
theorem bits_le {w n : Nat} (h : n < 2 ^ (w + 1)) : (Nat.toDigits 2 n).length ≤ w + 1 := by
  have := (digs_fix w n h).1
  simpa [digs] using this
theorem intBits_le {n : Int} {w : Nat} (h0 : 0 ≤ n) : (Builtin.Int.intBits n : Nat) ≤ w ↔ n.toNat < 2 ^ w := by
  unfold Builtin.Int.intBits
  by_cases h : n = 0
  · subst h; simp [Nat.two_pow_pos]
  · rw [if_neg (by simpa using h)]
    have e : n.natAbs = n.toNat := by omega
    rw [e, ← Nat.log2_lt (by omega : n.toNat ≠ 0)]
    omega
/-- the number of a list of digits, the highest first -/
def numL (bs : List Int) : Int := bs.foldl (fun a b => 2 * a + b) 0
theorem numL_snoc (bs : List Int) (b : Int) : numL (bs ++ [b]) = 2 * numL bs + b := by simp [numL, List.foldl_append]
theorem num_fixL : ∀ (w n : Nat), n < 2 ^ w → numL (fixL w n) = (n : Int)
  | 0, n, h => by
    have : n = 0 := by simpa using h
    subst this; rfl
  | w + 1, n, h => by
    rw [fixL, numL_snoc, num_fixL w (n / 2) (by rw [Nat.pow_succ] at h; omega)]
    omega
theorem code_bit {b : Int} (h : isBit b) : code b = 48 ∨ code b = 49 := by rcases h with rfl | rfl <;> decide
theorem text_bit {b : Int} (h : isBit b) : PySem.intText? ⟨#[code b]⟩ = some b := by rcases h with rfl | rfl <;> decide +kernel
/-- the digit at a place -/
theorem fixL_at : ∀ (w n i : Nat), i < w → (fixL w n)[i]? = some ((n / 2 ^ (w - 1 - i) % 2 : Nat) : Int)
  | 0, _, _, h => by omega
  | w + 1, n, i, h => by
    rw [fixL]
    by_cases hi : i < w
    · rw [List.getElem?_append_left (by rw [fixL_len]; exact hi), fixL_at w (n / 2) i hi]
      congr 3
      rw [Nat.div_div_eq_div_mul, show w + 1 - 1 - i = (w - 1 - i) + 1 by omega, Nat.pow_succ, Nat.mul_comm]
    · have : i = w := by omega
      subst this
      rw [List.getElem?_append_right (by rw [fixL_len]; exact Nat.le_refl _), fixL_len]
      simp
end SecBits
theorem s_fmtB {σ : L2.St} {H : Hp} {Q : VK} {te : TE} (h : te σ H fun x H1 => ∃ i : Int, x = .int i ∧ 0 ≤ i ∧ (Nat.toDigits 2 i.natAbs).length ≤ 100000 ∧ Q (.str (binText i.natAbs)) H1) : tFmtB te σ H Q := h
section ExcS
open PyProof.Rows
/-! ### own exception classes -/
def exA (mg : Str → Option Value) (x : Str) : Addr := match mg x with
  | some (.ref a) => a
  | _ => 0
theorem exA_of {mg : Str → Option Value} {x : Str} {a : Addr} (h : mg x = some (.ref a)) : exA mg x = a := by unfold exA; rw [h]
structure ExF (K : PySem.W.Frag) (mg : Str → Option Value) (nm : Str) : Prop where
  g : mg nm = some (.ref (exA mg nm))
  x : PySem.W.excIn K (exA mg nm) [.type "ValueError", .type "Exception", .type "BaseException", .type "object"] "ValueError.__new__" = true
  k : PySem.W.keepIn K (.ref (exA mg nm)) = true
  b : PySem.W.subIn K (.ref (exA mg nm)) (.type "BaseException") = some true
  t : PySem.W.typeIn K (.ref (exA mg nm)) = some (.type "type")
  c : ExcC K (exA mg nm)
theorem ExF.mk' {K : PySem.W.Frag} {mg : Str → Option Value} {nm : Str} {C : Addr} (g : mg nm = some (.ref C))
    (x : PySem.W.excIn K C [.type "ValueError", .type "Exception", .type "BaseException", .type "object"] "ValueError.__new__" = true) (k : PySem.W.keepIn K (.ref C) = true)
    (b : PySem.W.subIn K (.ref C) (.type "BaseException") = some true) (t : PySem.W.typeIn K (.ref C) = some (.type "type"))
    (hg : PySem.W.findIn K (.ref C) "__getattribute__" = some (some (.builtin "BaseException.__getattribute__")))
    (hk : PySem.W.findIn K (.ref C) "__getattr__" = some none)
    (hd : PySem.W.hasDictIn K C = true)
    (ha : PySem.W.findIn K (.ref C) "__class__" = some (some (.builtin "object.__class__")))
    (hn : PySem.W.specialIn K (.builtin "object.__class__") "__get__" = some (some (.builtin "getset_descriptor.__get__")))
    (ht : PySem.W.takesIn K (.builtin "object.__class__") = some true)
    (hm : PySem.W.mroIn K C (.type "object") = some true) : ExF K mg nm := by
  have e := exA_of g
  exact ⟨by rw [e]; exact g, by rw [e]; exact x, by rw [e]; exact k, by rw [e]; exact b, by rw [e]; exact t, by rw [e]; exact ⟨hg, hk, b, hd, ha, hn, ht, hm⟩⟩
theorem ExF.exm {K : PySem.W.Frag} {mg : Str → Option Value} {nm : Str} (h : ExF K mg nm) {cls : Value} {b : Bool} (s : PySem.W.subIn K cls (.ref (exA mg nm)) = some b) : PySem.W.exmOne K cls (.ref (exA mg nm)) = some b := PySem.W.exm_ref h.b h.c.hd h.t s
section
variable {X : Cx} {C : Addr} {bmB : List Value} {B newId initId : String}
open PySem.W in
/-- isinstance against an own class, by the order of the classes -/
theorem kit_own {K : Frag} {a C : Addr} {b : Bool} (hd : hasDictIn K C = true) (ht : typeIn K (.ref C) = some (.type "type")) (h : subIn K (.ref a) (.ref C) = some b) (s : subIn K (.ref a) (.ref a) = some true) : kitOne K (.ref a) (.ref C) = some b := by
  obtain ⟨cd, hc, _⟩ := any_some hd
  have e2 : ((clsIn K C).isSome && typeIn K (.ref C) == some (.type "type")) = true := by rw [hc, ht]; rfl
  unfold kitOne
  by_cases q : a = C
  · subst q
    rw [if_pos (by simp), ← h, s]
  · rw [if_neg (by simpa using q)]
    show (if ((clsIn K C).isSome && typeIn K (.ref C) == some (.type "type")) = true then subIn K (.ref a) (.ref C) else none) = some b
    rw [if_pos e2, h]
open PySem.W in
theorem kit_val {K : Frag} {a : Addr} (h : subIn K (.ref a) (.type "ValueError") = some true) : kitOne K (.ref a) (.type "ValueError") = some true := by
  unfold kitOne
  rw [if_neg (by simp)]
  show (if kitMeta "ValueError" = true then subIn K (.ref a) (.type "ValueError") else none) = some true
  rw [if_pos (by decide +kernel), h]
/-- X() -/
theorem pmk_own0 {x : Str} {p pos : Pos} (F : ExcBaseFacts B newId initId bmB) (q : PySem.W.excIn X.K C bmB newId = true) (gC : X.mg x = some (.ref C)) (kC : PySem.W.keepIn X.K (.ref C) = true) (r : Raises X (.ref C)) (hg : Gl X x)
    (hdb : (x == ("__debug__" : Str)) = false := by decide) : PMk X (.Call (.Name x p) [] [] pos) (fun _ H Q => Q (.ref C) none H) := by
  intro pins s σ H Q I h
  refine wpAny_Call_Name_kw (ld_glob I hg gC ?_ hdb)
  refine PySem.W.callWith_K0 I.kIn kC ?_
  obtain ⟨bm, N, nm, qn, bs, hdct, sn, sub, ab, col, dd, k0, k1, k2, k3, k5, mN, hC, hN, hni, T⟩ := exc_obj I.kIn q
  exact wpAny_call_exc_subT F T hC hN hni (fun h' e hm => mk_of I hm r h (I.hok.gone hm.new)) (Nat.zero_le _)
end
/-- isinstance(e, c) in an except suite: e's class is known in the reading -/
def rIsX (K : PySem.W.Frag) (a : Addr) (cls : Value) (d : Option Addr) : List V → Hp → VK → Prop := fun xs H Q => ∃ D, cls = .ref D ∧ d = none ∧ ExcC K D ∧ rIsE K D a xs H Q
theorem call_isX {X : Cx} (K : PySem.W.Frag) (eK : X.K = K) {a : Addr} {cls : Value} {d : Option Addr} {oe : Obj} {pn : List (Addr × Obj)} (hz : Zc cls d oe) (hf : ∃ vs, oe.data = .fields vs) : CallR (X.suite a ((a, oe) :: pn)) (.builtin "isinstance") (rIsX K a cls d) := by
  subst eK
  intro pins s σ H vs us Q I r h
  obtain ⟨D, rfl, rfl, C, q⟩ := h
  exact call_isE C hz hf pins s σ H vs us Q I r q
theorem s_isX {K : PySem.W.Frag} {a D C : Addr} {b : Bool} {H : Hp} {Q : VK} (c : ExcC K D) (k : PySem.W.kitOne K (.ref D) (.ref C) = some b) (q : Q (.bl b) H) : rIsX K a (.ref D) none [.ref a, .ref C] H Q :=
  ⟨D, rfl, rfl, c, .ref C, .ref C, b, rfl, fun _ r => r, k, q⟩
theorem s_isXt {K : PySem.W.Frag} {a D : Addr} {n : String} {b : Bool} {H : Hp} {Q : VK} (c : ExcC K D) (k : PySem.W.kitOne K (.ref D) (.type n) = some b) (q : Q (.bl b) H) : rIsX K a (.ref D) none [.ref a, .ty n] H Q :=
  ⟨D, rfl, rfl, c, .ty n, .type n, b, rfl, fun _ r => r, k, q⟩
theorem s_callS {sp : Sp} {E : L2.St → XK} {t : TA} {σ : L2.St} {H : Hp} {Q : VK} (h : t σ H fun vs H1 => sp vs H1 Q (E σ)) : tCallS sp E t σ H Q := h
theorem cx_none {P : Program} {w : World} {H : Hp} {s : Shared} {e : Value} {s' : Shared} (h : L2.CX P w [] H s (fun _ _ _ => False) e s') : False := by
  obtain ⟨_, _, _, _, _, _, _, _, _, _, _, _, z⟩ := h
  exact z
end ExcS
/-! ### several clauses behind a try, each with a name or without -/
section HandsS
open PySem.Spec PyProof.Rows
def goneD (i : Nat) (D : Ends) : Ends := ⟨fun σ H => D.nx (σ.set i none) H, D.rt, fun σ H => D.bk (σ.set i none) H, fun σ H => D.ct (σ.set i none) H⟩
/-- what the clauses want of an error: the first whose class fits takes it -/
def wH (K : PySem.W.Frag) (out : WX) (D : Ends) : List (Value × Option Nat × (Addr → Value → Option Addr → TS)) → WX
  | [] => out
  | (c, none, ts) :: r => fun cls d σ H => ∃ b, PySem.W.exmOne K cls c = some b ∧ (b = true → ∀ a, H a = none → ts a cls d D σ H) ∧ (b = false → wH K out D r cls d σ H)
  | (c, some i, ts) :: r => fun cls d σ H => ∃ b, PySem.W.exmOne K cls c = some b ∧ (b = true → ∀ a, H a = none → ts a cls d (goneD i D) (σ.set i (some (.ref a))) H) ∧ (b = false → wH K out D r cls d σ H)
inductive HOks (X : Cx) : List ExceptHandler → List (Value × Option Nat × (Addr → Value → Option Addr → TS)) → Prop
  | nil : HOks X [] []
  | anon {x : Str} {c : Value} {ts : Addr → Value → Option Addr → TS} {b₀ : Stmt} {suite : List Stmt} {np pos : Pos} {hds : List ExceptHandler} {l : List (Value × Option Nat × (Addr → Value → Option Addr → TS))} (hc : Names X x c)
      (hsu : ∀ (a : Addr) (oe : Obj) (cls : Value) (d : Option Addr) (pn : List (Addr × Obj)), Zc cls d oe → (∃ vs, oe.data = .fields vs) → PSs (X.suite a ((a, oe) :: pn)) (b₀ :: suite) (ts a cls d)) (r : HOks X hds l) :
      HOks X (.ExceptHandler (some (.Name x np)) none (b₀ :: suite) pos :: hds) ((c, none, ts) :: l)
  | named {x n : Str} {i : Nat} {c : Value} {ts : Addr → Value → Option Addr → TS} {b₀ : Stmt} {suite : List Stmt} {np pos : Pos} {hds : List ExceptHandler} {l : List (Value × Option Nat × (Addr → Value → Option Addr → TS))}
      (hi : X.N[i]? = some n) (hln : X.env.kindOf n = some .local) (hc : Names X x c)
      (hsu : ∀ (a : Addr) (oe : Obj) (cls : Value) (d : Option Addr) (pn : List (Addr × Obj)), Zc cls d oe → (∃ vs, oe.data = .fields vs) → PSs (X.suite a ((a, oe) :: pn)) (b₀ :: suite) (ts a cls d)) (r : HOks X hds l) :
      HOks X (.ExceptHandler (some (.Name x np)) (some n) (b₀ :: suite) pos :: hds) ((c, some i, ts) :: l)
/-- an error that has come down to the frame of a try -/
structure Down (X : Cx) (pins : List (Addr × Obj)) (σ : L2.St) (H : Hp) (cls : Value) (d : Option Addr) (a : Addr) (B : Heap) (sI s : Shared) : Prop where
  at0 : L2.Inv X pins σ H sI
  nb : ∀ (b : Addr) (o : Obj), sI.heap.get? b = some o → ¬ b ∈ frs X.stack → B.get? b = some o
  up : sI.heap.UpToSlots s.heap
  os : s.os = sI.os
  ag : AllBare s.gens
  na : H a = none
  fl : HandSPX.FlyingZ B (X.env :: X.outer) a (Zc cls d) s.heap
variable {X : Cx} {pins : List (Addr × Obj)} {σ : L2.St} {H : Hp} {cls : Value} {d : Option Addr} {a : Addr} {B : Heap} {sI s : Shared}
theorem Down.inv (D : Down X pins σ H cls d a B sI s) : L2.Inv X pins σ H s := D.at0.landed D.nb D.fl.1 D.up D.os D.ag
theorem Down.obj (D : Down X pins σ H cls d a B sI s) (hf : X.env.frame = some X.env.locals) :
    ∃ oe vs, s.heap.get? a = some oe ∧ Zc cls d oe ∧ oe.data = Data.fields vs ∧ L2.Inv (X.suite a ((a, oe) :: (X.pn ++ pins))) [] σ H s := by
  obtain ⟨oe, vs, e, z, dd⟩ := D.fl.there
  have off : a ∉ frs (X.env :: X.outer) := fun hm => by
    obtain ⟨_, o, e', no⟩ := D.fl.2.2.1.mem hm
    rw [e] at e'
    exact no vs ((Option.some.inj e') ▸ dd)
  have n1 : a ≠ X.env.locals := fun z => off (List.mem_filterMap.mpr ⟨X.env, by simp, by rw [hf, z]⟩)
  have n2 : a ∉ X.fs := fun hm => off (by
    obtain ⟨v, hv, q⟩ := List.mem_filterMap.mp hm
    exact List.mem_filterMap.mpr ⟨v, by simp [hv], q⟩)
  exact ⟨oe, vs, e, z, dd, D.inv.suite e dd D.na n1 n2⟩
theorem Down.next (D : Down X pins σ H cls d a B sI s) {h' : Heap} (f : HandSPX.FlyingZ B (X.env :: X.outer) a (Zc cls d) h') (u : s.heap.UpToSlots h') : Down X pins σ H cls d a B sI { s with heap := h' } :=
  ⟨D.at0, D.nb, D.up.trans u, D.os, D.ag, D.na, f⟩
theorem Down.hands (D : Down X pins σ H cls d a B sI s) {W : WX} {E : Ends} (hs : X.stack = X.env :: X.outer) (hf : X.env.frame = some X.env.locals) (hN : X.N.Nodup) (tk : Takes X W) (ok : X.Ok) {hds : List ExceptHandler} {l : List (Value × Option Nat × (Addr → Value → Option Addr → TS))}
    (hh : HOks X hds l) (w : wH X.K W E l cls d σ H) : wpAny (model X.prog X.w) X.A (handleBy (.ref a) X.env hds) (SP X pins E) X.xe s := by
  induction hh with
  | nil =>
    refine wpAny_handleBy_nil ?_
    obtain ⟨_, _, _, oe, vs, T, oT, ts, he, _, hd, h1, _⟩ := id D.fl
    unfold PySem.passOn
    refine wpAny_bind (wpAny_field he hd h1 ?_)
    rw [if_neg (show ¬ ((Value.ref T == Value.none) = true) from by simp)]
    have out : wpAny (model X.prog X.w) X.A (setFlight (.ref a) X.env.frame) (fun _ s4 => wpAny (model X.prog X.w) X.A (throw (.ref a) : Sem Flow) (SP X pins E) X.xe s4) X.xe s := by
      rw [hf]
      exact HandSPX.setFlight_upZ D.fl fun h4 hh4 u4 => wpAny_throw (tk _ _ ⟨a, B, sI, pins, σ, H, cls, d, rfl, D.at0, D.nb, D.up.trans u4, .inr (.inr (by rw [hs]; exact hh4)), D.na, D.os, D.ag, w⟩)
    first
      | exact wpAny_bind (wpAny_pure (wpAny_bind out))
      | exact wpAny_bind out
  | @anon x c ts b₀ suite np pos hds l hc hsu r ih =>
    obtain ⟨b, e1, yes, no⟩ := w
    obtain ⟨oe, vs, he, hz, _, S⟩ := D.obj hf
    refine wpAny_handleBy_cons (codeAny_handlers_test ?_) (by intro q; cases q)
    have ty : PySem.W.Looks (model X.prog X.w) s.heap (typeOf (.ref a)) cls := fun _ _ _ _ k q => wpAny_typeOf_ref (k _ _ he) (by rw [hz.1]; exact q)
    have fits := PySem.W.exm_one (M := model X.prog X.w) D.inv.kIn ty e1
    have name : ∀ {Q E : Value → Shared → Prop}, Q c s → wpAny (model X.prog X.w) (X.A.mark (some (.ref a))) (eval (.Name x np) X.env) Q E s := fun {Q E} q => by
      obtain ⟨g1, g2, g3 | ⟨g3, g4, g5⟩⟩ := hc
      · exact ld_glob (X := X.suite a ((a, oe) :: (X.pn ++ pins))) S g1 g3 q g2
      · exact ld_blt (X := X.suite a ((a, oe) :: (X.pn ++ pins))) S g1 g3 g4 q g5 g2
    refine name (fits.here ?_)
    cases b with
    | false => exact ih (no rfl)
    | true =>
      refine codeAny_handlers_suite (HandSPX.lands_againZ D.fl fun h4 f4 u4 => ?_)
      obtain ⟨oe4, vs4, _, z4, d4, S4⟩ := (D.next f4 u4).obj hf
      refine wpAny_mono ((hsu a oe4 cls d (X.pn ++ pins) z4 ⟨_, d4⟩).run [] _ σ H E S4 (yes rfl a D.na)) (fun f s6 q => ?_) fun _ _ z => z.elim
      cases f with
      | ret u =>
        obtain ⟨v6, σ6, H6, S6, r6, q6⟩ := q
        exact ⟨v6, σ6, H6, S6.unsuite ok, r6, q6⟩
      | _ =>
        obtain ⟨σ6, H6, S6, q6⟩ := q
        exact ⟨σ6, H6, S6.unsuite ok, q6⟩
  | @named x n i c ts b₀ suite np pos hds l hi hln hc hsu r ih =>
    obtain ⟨b, e1, yes, no⟩ := w
    obtain ⟨oe, vs, he, hz, _, S⟩ := D.obj hf
    refine wpAny_handleBy_cons (codeAny_handlers_test ?_) (by intro q; cases q)
    have ty : PySem.W.Looks (model X.prog X.w) s.heap (typeOf (.ref a)) cls := fun _ _ _ _ k q => wpAny_typeOf_ref (k _ _ he) (by rw [hz.1]; exact q)
    have fits := PySem.W.exm_one (M := model X.prog X.w) D.inv.kIn ty e1
    have name : ∀ {Q E : Value → Shared → Prop}, Q c s → wpAny (model X.prog X.w) (X.A.mark (some (.ref a))) (eval (.Name x np) X.env) Q E s := fun {Q E} q => by
      obtain ⟨g1, g2, g3 | ⟨g3, g4, g5⟩⟩ := hc
      · exact ld_glob (X := X.suite a ((a, oe) :: (X.pn ++ pins))) S g1 g3 q g2
      · exact ld_blt (X := X.suite a ((a, oe) :: (X.pn ++ pins))) S g1 g3 g4 q g5 g2
    refine name (fits.here ?_)
    cases b with
    | false => exact ih (no rfl)
    | true =>
      refine codeAny_handlers_suite_as (HandSPX.lands_againZ D.fl fun h4 f4 u4 => ?_)
      obtain ⟨oe4, vs4, _, z4, d4, S4⟩ := (D.next f4 u4).obj hf
      refine store_ok (X := X.suite a ((a, oe4) :: (X.pn ++ pins))) (v := .ref a) S4 hN hi (.inl hln) rfl (fun s5 S5 => ?_) (.inr hln)
      refine wpAny_mono ((hsu a oe4 cls d (X.pn ++ pins) z4 ⟨_, d4⟩).run [] s5 _ H (goneD i E) S5 (yes rfl a D.na)) (fun f s6 q => ?_) fun _ _ z => z.elim
      cases f with
      | ret u =>
        obtain ⟨v6, σ6, H6, S6, r6, q6⟩ := q
        exact gone_ok (S6.unsuite ok) hN hi hln fun s7 J7 => ⟨_, _, _, J7, r6, q6⟩
      | _ =>
        obtain ⟨σ6, H6, S6, q6⟩ := q
        exact gone_ok (S6.unsuite ok) hN hi hln fun s7 J7 => ⟨_, _, J7, q6⟩
/-- try: body, then clauses with names or without -/
theorem ps_tryH {body : List Stmt} {h₀ : ExceptHandler} {hds : List ExceptHandler} {l : List (Value × Option Nat × (Addr → Value → Option Addr → TS))} {W : WX} {tb : WX → TS} {pos : Pos} (hs : X.stack = X.env :: X.outer) (hf : X.env.frame = some X.env.locals) (hN : X.N.Nodup) (tk : Takes X W)
    (hb : ∀ (V : WX) (pn : List (Addr × Obj)) (xe : Value → Shared → Prop), Takes (X.tr pn xe) V → PassesOwn (model X.prog X.w) X.A X.env xe → PSs (X.tr pn xe) body (tb V))
    (hh : HOks X (h₀ :: hds) l) : PS X (.Try body (h₀ :: hds) [] [] pos) (fun D σ H => tb (wH X.K W D l) D σ H) := by
  refine ⟨fun pins s σ H D I h => ?_⟩
  have ok := I.ok
  refine wpAny_Try_except (wpAny_mono ((hb (wH X.K W D l) (X.pn ++ pins) _ (fun u s' xx => ?_) PassesOwn.looking).run [] s σ H D (I.toTry _) h) (fun f s1 q => ?_) fun e s1 he => he)
  · obtain ⟨a, B, sI, pins', σ', H', cls, d, rfl, J', nb, up, sky, na, os, ag, w⟩ := xx
    have sky' : Sky B (X.env :: X.outer) a (Zc cls d) X.env.locals s'.heap := by rw [← hs]; exact sky
    exact Sky.land Zc.steady (by rw [ok.frames, hs]) hf sky' fun h3 f3 u3 => Down.hands (s := { s' with heap := h3 }) ⟨J'.ofTry ok, nb, up.trans u3, os, ag, na, f3⟩ hs hf hN tk ok hh w
  · cases f with
    | next =>
      obtain ⟨σ', H', J', q⟩ := q
      exact wpAny_execs_nil ⟨σ', H', J'.ofTry ok, q⟩
    | ret u =>
      obtain ⟨v, σ', H', J', r, q⟩ := q
      exact ⟨v, σ', H', J'.ofTry ok, r, q⟩
    | _ =>
      obtain ⟨σ', H', J', q⟩ := q
      exact ⟨σ', H', J'.ofTry ok, q⟩
end HandsS
/-! ### codes of counts -/
theorem pad_ok {i : Int} (h : 0 ≤ i ∧ i ≤ 10000) : PadOk i = true := by
  unfold PadOk fitsSsize Builtin.Str.tooLong
  have e : sizeLine = 16777216 := by decide
  simp [e]
  omega
/-- how many binary digits a number has -/
def blen (n : Nat) : Nat := if n = 0 then 0 else n.log2 + 1
theorem blen_lt (n : Nat) : n < 2 ^ blen n := by
  unfold blen
  split
  · subst_vars; decide
  · exact (Nat.log2_lt (by assumption)).mp (Nat.lt_succ_self _)
theorem intBits_blen {n : Int} (h : 0 ≤ n) : (Builtin.Int.intBits n : Nat) = blen n.toNat := by
  unfold Builtin.Int.intBits blen
  by_cases e : n = 0
  · subst e; rfl
  · rw [if_neg (by simpa using e), if_neg (by omega), show n.natAbs = n.toNat by omega]
theorem blen_le {n k : Nat} (h : n < 2 ^ k) : blen n ≤ k := by
  unfold blen
  split
  · omega
  · exact (Nat.log2_lt (by assumption)).mpr h
theorem blen_pos {n : Nat} (h : 0 < n) : 0 < blen n := by unfold blen; rw [if_neg (by omega)]; omega
/-- the code of a count -/
def countL (n : Nat) : List Int := List.replicate (blen (n + 1) - 1) 0 ++ fixL (blen (n + 1)) (n + 1)
def sgn (n : Int) : Nat := if 0 ≤ n then (2 * n).toNat else (-2 * n - 1).toNat
theorem fixL_head {w n : Nat} (h1 : 2 ^ w ≤ n) (h2 : n < 2 ^ (w + 1)) : ∃ t, fixL (w + 1) n = 1 :: t ∧ t.length = w := by
  have e := fixL_at (w + 1) n 0 (by omega)
  have d : n / 2 ^ w = 1 := by
    have a : 1 ≤ n / 2 ^ w := (Nat.le_div_iff_mul_le (Nat.two_pow_pos w)).mpr (by omega)
    have b : n / 2 ^ w < 2 := (Nat.div_lt_iff_lt_mul (Nat.two_pow_pos w)).mpr (by rw [Nat.pow_succ] at h2; omega)
    omega
  rw [show w + 1 - 1 - 0 = w by omega, d] at e
  have hl := fixL_len (w + 1) n
  match h : fixL (w + 1) n with
  | [] => rw [h] at hl; simp at hl
  | x :: t =>
    rw [h] at e hl
    have : x = 1 := by simpa using e
    subst this
    exact ⟨t, rfl, by simpa using hl⟩
/-- the code of a count: so many noughts, a one, as many digits -/
theorem countL_form (c : Nat) (hc : c ≤ 2199023255550) : ∃ (z : Nat) (t : List Int), countL c = List.replicate z 0 ++ 1 :: t ∧ t.length = z ∧ z ≤ 40 ∧ numL (1 :: t) = (c : Int) + 1 ∧ ∀ x ∈ t, isBit x := by
  have hp := blen_pos (n := c + 1) (by omega)
  have h2 := blen_lt (c + 1)
  have h1 : 2 ^ (blen (c + 1) - 1) ≤ c + 1 := by
    unfold blen
    rw [if_neg (by omega)]
    exact (Nat.le_log2 (by omega)).mp (Nat.le_refl _)
  have h3 : blen (c + 1) ≤ 41 := blen_le (by omega)
  have e : blen (c + 1) = (blen (c + 1) - 1) + 1 := by omega
  rw [e] at h2
  obtain ⟨t, ht, hl⟩ := fixL_head h1 h2
  refine ⟨blen (c + 1) - 1, t, ?_, hl, by omega, ?_, fun x hx => ?_⟩
  · unfold countL
    rw [← ht, ← e]
  · rw [← ht, num_fixL _ _ h2]; simp
  · exact fixL_bit _ _ x (ht ▸ List.mem_cons_of_mem _ hx)
theorem countL_len (c : Nat) (hc : c ≤ 2199023255550) : (countL c).length ≤ 81 := by
  obtain ⟨z, t, h, hl, hz, _⟩ := countL_form c hc
  rw [h]; simp [hl]; omega
theorem countL_bit (c : Nat) (hc : c ≤ 2199023255550) : ∀ x ∈ countL c, isBit x := by
  obtain ⟨z, t, h, hl, hz, _, hb⟩ := countL_form c hc
  intro x hx
  rw [h] at hx
  rcases List.mem_append.mp hx with hx | hx
  · exact .inl (List.eq_of_mem_replicate hx)
  · rcases List.mem_cons.mp hx with rfl | hx
    · exact .inr rfl
    · exact hb x hx
/-- noughts from a place on -/
def zrun (bs : List Int) (a : Nat) : Nat := ((bs.drop a).takeWhile fun b => decide (b = 0)).length
/-- what is read at a place -/
def cntR (bs : List Int) (a : Nat) : List V :=
  if 40 < min 41 (zrun bs a) then [.str "long"] else if bs.length < a + min 41 (zrun bs a) + min 41 (zrun bs a) + 1 then [.str "short"]
  else [.str "read", .int (numL ((bs.drop (a + min 41 (zrun bs a))).take (min 41 (zrun bs a) + 1)) - 1), .int ((a + min 41 (zrun bs a) + min 41 (zrun bs a) + 1 : Nat) : Int)]
theorem tw_at {p : Int → Bool} : ∀ (l : List Int) (j : Nat), j < (l.takeWhile p).length → ∃ x, l[j]? = some x ∧ p x = true
  | [], j, h => by simp at h
  | y :: l, j, h => by
    rw [List.takeWhile_cons] at h
    by_cases e : p y = true
    · rw [if_pos e] at h
      cases j with
      | zero => exact ⟨y, rfl, e⟩
      | succ j => exact tw_at l j (by simpa using h)
    · rw [if_neg e] at h; simp at h
theorem tw_end {p : Int → Bool} : ∀ (l : List Int) (x : Int), l[(l.takeWhile p).length]? = some x → p x = false
  | [], x, h => by simp at h
  | y :: l, x, h => by
    rw [List.takeWhile_cons] at h
    by_cases e : p y = true
    · rw [if_pos e] at h
      exact tw_end l x (by simpa using h)
    · rw [if_neg e] at h
      have : y = x := by simpa using h
      subst this
      simpa using e
theorem zrun_at {bs : List Int} {a j : Nat} (h : j < zrun bs a) : bs[a + j]? = some 0 := by
  obtain ⟨x, e, hx⟩ := tw_at (bs.drop a) j h
  rw [List.getElem?_drop] at e
  rw [e]; simpa using hx
theorem zrun_end {bs : List Int} {a : Nat} : bs[a + zrun bs a]? ≠ some 0 := fun e => by
  have := tw_end (p := fun b => decide (b = 0)) (bs.drop a) 0 (by rw [List.getElem?_drop]; exact e)
  simp at this
theorem zrun_le {bs : List Int} {a : Nat} (h : a ≤ bs.length) : a + zrun bs a ≤ bs.length := by
  have : zrun bs a ≤ (bs.drop a).length := (List.takeWhile_sublist _).length_le
  simp at this; omega
theorem tw_rep (z : Nat) (r : List Int) (h : ∀ x, r[0]? = some x → x ≠ 0) : ((List.replicate z (0 : Int) ++ r).takeWhile fun b => decide (b = 0)).length = z := by
  induction z with
  | zero =>
    cases r with
    | nil => simp
    | cons x r => have := h x rfl; simp [this]
  | succ z ih => rw [List.replicate_succ, List.cons_append, List.takeWhile_cons, if_pos (by simp), List.length_cons, ih]
theorem cntR_code {c : Nat} (hc : c ≤ 2199023255550) (A B : List Int) : cntR (A ++ countL c ++ B) A.length = [.str "read", .int c, .int ((A.length + (countL c).length : Nat) : Int)] := by
  obtain ⟨z, t, h, hl, hz, hn, _⟩ := countL_form c hc
  have e : A ++ countL c ++ B = A ++ (List.replicate z 0 ++ (1 :: (t ++ B))) := by rw [h]; simp
  have hzr : zrun (A ++ countL c ++ B) A.length = z := by
    unfold zrun
    rw [e, List.drop_left]
    exact tw_rep z _ (by simp)
  have hlen : (countL c).length = z + (z + 1) := by rw [h]; simp [hl]
  unfold cntR
  rw [hzr, Nat.min_eq_right (by omega), if_neg (by omega), if_neg (by simp [hlen]; omega)]
  congr 2
  · congr 1
    rw [e, show A.length + z = (A ++ List.replicate z (0 : Int)).length by simp, ← List.append_assoc, List.drop_left, show (1 : Int) :: (t ++ B) = (1 :: t) ++ B from rfl, List.take_left' (by simp [hl]), hn]
    omega
  · rw [hlen, show A.length + z + z + 1 = A.length + (z + (z + 1)) by omega]
theorem cntR_short {c : Nat} (hc : c ≤ 2199023255550) (A : List Int) {k : Nat} (hk : k < (countL c).length) : cntR (A ++ (countL c).take k) A.length = [.str "short"] := by
  obtain ⟨z, t, h, hl, hz, hn, _⟩ := countL_form c hc
  have hlen : (countL c).length = z + (z + 1) := by rw [h]; simp [hl]
  have hzr : zrun (A ++ (countL c).take k) A.length = min k z := by
    unfold zrun
    rw [List.drop_left, h]
    by_cases hkz : k ≤ z
    · rw [List.take_append_of_le_length (by simp; omega), List.take_replicate, Nat.min_eq_left hkz]
      have := tw_rep k [] (by simp)
      simpa using this
    · rw [List.take_append, List.take_of_length_le (by simp; omega), Nat.min_eq_right (by omega)]
      refine tw_rep z _ fun x hx => ?_
      rw [List.length_replicate, show k - z = (k - z - 1) + 1 by omega, List.take_succ_cons] at hx
      have : (1 : Int) = x := by simpa using hx
      omega
  unfold cntR
  rw [hzr, if_neg (by omega), if_pos]
  simp; omega
section LamS
open PySem.Spec PyProof.Rows
/-! ### lambdas without parameters, handed to a def that calls them -/
abbrev Tbs := List (Addr × Str)
/-- the name that the lambdas of a def bear -/
def qLam (x : Str) : Str := x ++ ".<locals>." ++ "<lambda>"
/-- no table of code objects stands still -/
def NoT (F : Hp) : Prop := ∀ b ps, F b ≠ some (.tbl ps)
def cutT (H : Hp) : Hp := fun b => match H b with
  | some (.tbl _) => none
  | o => o
theorem cutT_at {H : Hp} {b : Addr} {o : HO} (h : H b = some o) (n : ∀ ps, o ≠ .tbl ps) : cutT H b = some o := by
  unfold cutT
  rw [h]
  cases o <;> first | rfl | exact absurd rfl (n _)
theorem cutT_same (H : Hp) : Same (cutT H) H := fun b o h => by
  unfold cutT at h
  split at h
  · cases h
  · exact h
theorem cutT_no (H : Hp) : NoT (cutT H) := fun b ps h => by
  have e := cutT_same H b _ h
  unfold cutT at h
  rw [e] at h
  cases h
theorem NoT.ext {F H H' : Hp} (n : NoT F) (s : Same F H) (e : LamX.ExtN H H') : Same F H' := fun b o h => e b o (s b o h) fun ps z => n b ps (by rw [h, z])
theorem Src.cut {F H : Hp} {p : Addr} (h : Src F H p) : Src (cutT F) H p := h.weak (cutT_same F)
theorem Src.ext {F H H' : Hp} {p : Addr} (h : Src F H p) (n : NoT F) (e : LamX.ExtN H H') : Src F H' p := by
  obtain ⟨a, b, x, y, h1, z⟩ := h
  exact ⟨n.ext a e, b, x, y, e _ _ h1 (fun ps z => by cases z), z⟩
theorem SqL.cut {K : PySem.W.Frag} {H : Hp} {a : Addr} {xs : List V} (h : SqL K H a xs) : SqL K (cutT H) a xs := by
  rcases h with (h | ⟨o, h⟩) | h
  · exact .inl (.inl (cutT_at h fun ps z => by cases z))
  · exact .inl (.inr ⟨o, cutT_at h fun ps z => by cases z⟩)
  · exact .inr h
theorem tabs_stp {T : Tbs} {F H F' H' : Hp} {p : Addr} (t : LamX.Tabs T H) (st : Stp (S1 p) F H F' H') (hp : ∃ xs, H p = some (.lst xs)) : LamX.Tabs T H' := fun q hq => by
  obtain ⟨xs, hp⟩ := hp
  obtain ⟨ps, h1, h2, h3⟩ := t q hq
  refine ⟨ps, st.keep _ _ (fun z => ?_) h1, h2, fun pos cv hc => ?_⟩
  · rw [show q.1 = p from z, hp] at h1; cases h1
  · obtain ⟨c, e1, e2⟩ := h3 pos cv hc
    refine ⟨c, e1, st.keep _ _ (fun z => ?_) e2⟩
    rw [show c = p from z, hp] at e2
    unfold LamX.CodeO at e2
    cases e2
theorem Src.tabs {T : Tbs} {F H F' H' : Hp} {p : Addr} (h : Src F H p) (t : LamX.Tabs T H) (st : Stp (S1 p) F H F' H') : LamX.Tabs T H' := by
  obtain ⟨_, _, x, y, e, _⟩ := h
  exact tabs_stp t st ⟨_, e⟩
theorem tabs_nil {T : Tbs} {H : Hp} (h : ∀ t ∈ T, H t.1 = some (.tbl #[])) : LamX.Tabs T H := fun t ht => .nil (h t ht)
/-- the length of the slots is known -/
theorem takes_len {X : Cx} {W : WX} (tk : Takes X W) : Takes X (fun cls d σ H => σ.length = X.N.length → W cls d σ H) := fun u s' ⟨a, B, sI, pins, σ, H, cls, d, e, I, nb, up, sky, na, os, ag, w⟩ =>
  tk u s' ⟨a, B, sI, pins, σ, H, cls, d, e, I, nb, up, sky, na, os, ag, w I.len⟩
theorem pss_ex {X : Cx} {b : List Stmt} {ι : Type} {C : ι → Prop} {t : ι → TS} (h : ∀ i, C i → PSs X b (t i)) : PSs X b (fun D σ H => ∃ i, C i ∧ t i D σ H) := ⟨fun pins s σ H D I ⟨i, c, q⟩ => (h i c).run pins s σ H D I q⟩
theorem pe_weak {X : Cx} {e : Expr} {t : TE} (h : PE X e t) : PE X e (fun σ H Q => ∃ R : VK, t σ H R ∧ ∀ v H1, R v H1 → Q v H1) :=
  ⟨fun pins s σ H Q I ⟨R, q, m⟩ => wpAny_mono (h.run pins s σ H R I q) (fun u s' ⟨v, H1, I1, r, q1⟩ => ⟨v, H1, I1, r, m v H1 q1⟩) fun _ _ z => z⟩
theorem NoT.new {F : Hp} {p : Addr} {o : HO} (n : NoT F) (h : ∀ ps, o ≠ .tbl ps) : NoT (upd F p o) := fun b ps z => by
  by_cases e : b = p
  · subst e; rw [upd_same] at z; exact h ps (Option.some.inj z)
  · rw [upd_ne e] at z; exact n b ps z
/-- a def whose code object is known -/
theorem okXc {P : Program} {w : World} {K : PySem.W.Frag} {mg : Str → Option Value} {base : Heap} {x qual : Str} {st : Stmt} {f : Addr} {fd : FuncData} {N ps : List Str} {k : Nat} {sp : Sp} (F : Fun K x qual st f fd) (S : FnScope N ps (defScope st)) (len : ∀ vs H Q E, sp vs H Q E → vs.length = ps.length)
    (hb : ∀ (A : Around) (outer : List Env) (s : Shared) (H : Hp) (vs : List V) (Q : VK) (E : XK), Room k (A.deeper (envOfC qual (defScope st) s.heap.objs.size f fd.code)) → sp vs H Q E →
      ∃ t, PSs (cxOf (L2.CX P w) P w K mg base N qual (defScope st) f fd.code A outer s H E) (defBody st) t ∧ t { nx := fun _ H' => Q .non H', rt := Q } (L2.start N vs) H) : FnOk P w K mg base (L2.CX P w) (k + 1) f fd ps sp := by
  obtain ⟨oc, od, kV, doc, pm, an, cdv, ct, osl, e, lk, hcd⟩ := F.ex
  subst e
  exact fn_of lk hcd S len hb
/-- a def that gets a lambda -/
structure LamG (K : PySem.W.Frag) (mg : Str → Option Value) (nm a : Str) (st : Stmt) (g : Addr) (fd : FuncData) (N : List Str) : Prop where
  F : Fun K nm nm st g fd
  m : mg nm = some (.ref g)
  b : L2.Binds K fd [a] []
  S : FnScope N [a] (defScope st)
def OkG (K : PySem.W.Frag) (mg : Str → Option Value) (nm a : Str) (st : Stmt) (N : List Str) : Prop := ∃ g fd, LamG K mg nm a st g fd N
theorem pe_lam {X : Cx} {T : Tbs} {TT : (XK → Hp → VK → Prop) → Hp → VK → Prop} {nm a : Str} {st : Stmt} {g : Addr} {fd : FuncData} {N : List Str} {c P : Addr} {k : Nat} {params : Arguments} {body : Expr} {scope : Scope} {t : XK → TE} {p lpos pos : Pos}
    (L : LamG X.K X.mg nm a st g fd N) (hg : Gl X nm) (hN : N[0]? = some a) (hv : Vis (defScope st) a) (hG : LamX.GivesTo X N nm (defScope st) g fd.code (defBody st) a (X.env.qual ++ "<lambda>") TT)
    (TB : LamX.TabB X.base X.mg c P) (hc : X.env.code = .ref c) (hm : (P, X.env.qual ++ "<lambda>") ∈ T) (hu : ∀ p ∈ T, p.1 = P → p.2 = X.env.qual ++ "<lambda>") (hr : Room (k + 2) X.A) (hs : LamX.LamS X.env.scope scope) (hdef : defaultsOf params X.env = ([], []))
    (hbind : ∀ (q : Str) (cl : List (Str × Addr)) (pm cv ctv : Value), bindArgs (PySem.W.kla_fn "<lambda>" q params body scope cl pm cv ctv) ⟨[], []⟩ = pure [])
    (hbody : ∀ (A : Around) (outer : List Env) (s : Shared) (H : Hp) (E : XK) (f c' : Addr), Room k (A.deeper (LamX.lamEnv X scope s.heap.objs.size f c')) → PE (LamX.lamCx X A outer s H E scope f c') body (t E))
    (d1 : (nm == ("__debug__" : Str)) = false := by decide) (d2 : (a == ("__debug__" : Str)) = false := by decide) (d3 : (a == ("__classdict__" : Str)) = false := by decide) :
    PE X (.Call (.Name nm p) [.Lambda params body scope lpos] [] pos) (LamX.tLam T TT t) := by
  obtain ⟨oc, od, kV, doc, pm, an, cdv, ct, osl, e, lk, hcd⟩ := L.F.ex
  have b := L.b
  subst e
  exact LamX.pe_lamcall hg L.m L.F.kp lk hcd b L.S hN hv hG TB hc hm hu hr hs hdef hbind hbody d1 d2 d3
theorem s_lam {T : Tbs} {TT : (XK → Hp → VK → Prop) → Hp → VK → Prop} {t : XK → TE} {σ : L2.St} {H : Hp} {Q : VK} (hT : LamX.Tabs T H) (h : ∀ H1, LamX.ExtN H H1 → LamX.Tabs T H1 → TT (fun E H' Q' => t E σ H' Q') H1 Q) : LamX.tLam T TT t σ H Q := ⟨hT, h⟩
end LamS
open PySem L2
/-! one step that needs no thought -/
local macro_rules | `(tactic| walk_at "cond") => `(tactic| first
  | decide
  | exact .inl ⟨by decide, by decide⟩
  | exact .inr ⟨by decide, by decide⟩
  | exact ⟨by decide, by decide⟩
  | exact ⟨by decide, by decide, by decide⟩
  | assumption
  | (show (0 : Int) < _; omega)
  | (show (0 : Int) ≤ _; omega)
  | exact .inl ⟨by omega, by omega⟩
  | exact .inr ⟨by omega, by omega⟩
  | exact ⟨by omega, by omega⟩
  | exact ⟨by omega, by omega, by omega⟩)
local macro_rules | `(tactic| walk_at "sq") => `(tactic| first
  | assumption
  | exact SqL.of (by assumption)
  | exact SqT.of (by assumption)
  | exact SqL.of upd_same
  | exact SqT.of upd_same)
local macro_rules | `(tactic| walk_at "r1") => `(tactic| first
  | (with_reducible refine s_seq ?_)
  | (with_reducible refine s_next ?_)
  | (with_reducible refine s_asg ?_)
  | (with_reducible refine s_gname ?_)
  | (with_reducible refine s_ret ?_)
  | (with_reducible refine s_if ?_)
  | (with_reducible refine s_drop ?_)
  | (with_reducible refine s_op ?_)
  | (with_reducible refine s_c ?_)
  | (with_reducible refine s_tup ?_)
  | (with_reducible refine s_lst ?_)
  | (with_reducible refine s_nil ?_)
  | (with_reducible refine s_cons ?_)
  | (with_reducible refine s_call ?_)
  | (with_reducible refine s_cb ?_)
  | (with_reducible refine s_test ?_)
  | (with_reducible refine s_tB ?_)
  | (with_reducible refine s_b ?_)
  | (with_reducible refine s_not ?_)
  | (with_reducible refine s_and ?_)
  | (with_reducible refine s_or ?_)
  | (with_reducible refine s_un ?_)
  | (with_reducible refine s_U ?_)
  | (with_reducible refine s_ifE ?_)
  | (with_reducible refine s_andV0 ?_)
  | (with_reducible refine s_orV0 ?_)
  | (with_reducible refine s_notV ?_)
  | (with_reducible refine s_I0 ?_)
  | (with_reducible refine s_chain ?_)
  | (with_reducible refine s_par3 ?_)
  | (with_reducible refine s_par ?_)
  | (with_reducible refine s_v2 ?_)
  | (with_reducible refine s_v3 ?_)
  | (with_reducible refine s_eqI ?_)
  | (with_reducible refine s_neI ?_)
  | (with_reducible refine s_eqS ?_)
  | (with_reducible refine s_neS ?_)
  | (with_reducible refine s_max2 ?_)
  | (with_reducible refine s_min2 ?_)
  | (with_reducible refine s_int1 ?_)
  | (with_reducible refine s_int1b ?_)
  | ((with_reducible refine' s_var ?h ?q); (case h => rfl))
  | (with_reducible refine s_for ?_)
  | (with_reducible refine s_iR1 ?_)
  | (with_reducible refine s_iR2 ?_)
  | (with_reducible refine s_iR3 ?_)
  | (with_reducible refine s_sl ?_)
  | (with_reducible refine s_part ?_)
  | (with_reducible refine s_nopart ?_)
  | (with_reducible refine s_iL ?_)
  | (with_reducible refine s_iT ?_)
  | (with_reducible refine s_iS ?_)
  | (with_reducible refine s_lc ?_)
  | (with_reducible refine s_yes ?_)
  | ((with_reducible refine' s_wipe ?h ?q); (case h => rfl))
  | (with_reducible refine s_callK0 ?_)
  | (with_reducible refine s_bits ?_)
  | (with_reducible refine s_i ?_)
  | (with_reducible refine s_bm ?_)
  | (with_reducible refine s_bm0 ?_)
  | (with_reducible refine s_m1 ?_)
  | (with_reducible refine s_callK ?_)
  | (with_reducible refine s_gsub ?_)
  | ((with_reducible refine' s_gtup ?h ?e ?q); (case h => walk_at "sq"); (case e => rfl))
  | (with_reducible refine s_gcons ?_)
  | (with_reducible refine s_gnil ?_)
  | ((with_reducible refine s_I ?c ?q); (case c => walk_at "cond"))
  | ((with_reducible refine' s_ixL ?h ?a ?q); (case h => walk_at "sq"); (case a => rfl))
  | ((with_reducible refine' s_ixT ?h ?a ?q); (case h => walk_at "sq"); (case a => rfl))
  | ((with_reducible refine' s_setL ?h ?a ?q); (case h => first | assumption | exact upd_same); (case a => rfl))
  | ((with_reducible refine' s_len ?h ?q); (case h => walk_at "sq"))
  | ((with_reducible refine' s_lenT ?h ?q); (case h => walk_at "sq"))
  | (with_reducible refine iteT ?_)
  | (with_reducible refine iteF ?_)
  | (with_reducible refine itNF ?_)
  | (with_reducible refine itNT ?_))
local macro_rules | `(tactic| walk_at "r") => `(tactic| (repeat walk_at "r1"))
local macro_rules | `(tactic| walk_at "r1") => `(tactic| (with_reducible refine s_fmtB ?_))
local macro_rules | `(tactic| walk_at "r1") => `(tactic| (with_reducible refine s_callS ?_))
def topS (i : Nat) : Stmt := PySem.Challenge.pw_narrowingbits_k00_counts_read_back.main.body.getD i (.Pass ⟨0, 0, 0, 0⟩)
structure Zs (K : PySem.W.Frag) (mg : Str → Option Value) : Prop where
  z_bool : mg "bool" = none
  z_int : mg "int" = none
  z_isinstance : mg "isinstance" = none
  z_len : mg "len" = none
  z_list : mg "list" = none
  z_max : mg "max" = none
  z_min : mg "min" = none
  z_range : mg "range" = none
  e_MOST_COUNT : ∃ t, mg "MOST_COUNT" = some (.int (2199023255550) t)
  e_MOST_ZEROS : ∃ t, mg "MOST_ZEROS" = some (.int (40) t)
  x_BadBits : ExF K mg "BadBits"
  x_Great : ExF K mg "Great"
  x_NarrowError : ExF K mg "NarrowError"
  x_Outside : ExF K mg "Outside"
  s_BadBits_BadBits : PySem.W.subIn K (.ref (exA mg "BadBits")) (.ref (exA mg "BadBits")) = some true
  k_BadBits_BadBits : PySem.W.kitOne K (.ref (exA mg "BadBits")) (.ref (exA mg "BadBits")) = some true
  s_BadBits_Great : PySem.W.subIn K (.ref (exA mg "BadBits")) (.ref (exA mg "Great")) = some false
  k_BadBits_Great : PySem.W.kitOne K (.ref (exA mg "BadBits")) (.ref (exA mg "Great")) = some false
  s_BadBits_NarrowError : PySem.W.subIn K (.ref (exA mg "BadBits")) (.ref (exA mg "NarrowError")) = some true
  k_BadBits_NarrowError : PySem.W.kitOne K (.ref (exA mg "BadBits")) (.ref (exA mg "NarrowError")) = some true
  s_BadBits_Outside : PySem.W.subIn K (.ref (exA mg "BadBits")) (.ref (exA mg "Outside")) = some false
  k_BadBits_Outside : PySem.W.kitOne K (.ref (exA mg "BadBits")) (.ref (exA mg "Outside")) = some false
  s_Great_BadBits : PySem.W.subIn K (.ref (exA mg "Great")) (.ref (exA mg "BadBits")) = some false
  k_Great_BadBits : PySem.W.kitOne K (.ref (exA mg "Great")) (.ref (exA mg "BadBits")) = some false
  s_Great_Great : PySem.W.subIn K (.ref (exA mg "Great")) (.ref (exA mg "Great")) = some true
  k_Great_Great : PySem.W.kitOne K (.ref (exA mg "Great")) (.ref (exA mg "Great")) = some true
  s_Great_NarrowError : PySem.W.subIn K (.ref (exA mg "Great")) (.ref (exA mg "NarrowError")) = some true
  k_Great_NarrowError : PySem.W.kitOne K (.ref (exA mg "Great")) (.ref (exA mg "NarrowError")) = some true
  s_Great_Outside : PySem.W.subIn K (.ref (exA mg "Great")) (.ref (exA mg "Outside")) = some false
  k_Great_Outside : PySem.W.kitOne K (.ref (exA mg "Great")) (.ref (exA mg "Outside")) = some false
  s_NarrowError_BadBits : PySem.W.subIn K (.ref (exA mg "NarrowError")) (.ref (exA mg "BadBits")) = some false
  k_NarrowError_BadBits : PySem.W.kitOne K (.ref (exA mg "NarrowError")) (.ref (exA mg "BadBits")) = some false
  s_NarrowError_Great : PySem.W.subIn K (.ref (exA mg "NarrowError")) (.ref (exA mg "Great")) = some false
  k_NarrowError_Great : PySem.W.kitOne K (.ref (exA mg "NarrowError")) (.ref (exA mg "Great")) = some false
  s_NarrowError_NarrowError : PySem.W.subIn K (.ref (exA mg "NarrowError")) (.ref (exA mg "NarrowError")) = some true
  k_NarrowError_NarrowError : PySem.W.kitOne K (.ref (exA mg "NarrowError")) (.ref (exA mg "NarrowError")) = some true
  s_NarrowError_Outside : PySem.W.subIn K (.ref (exA mg "NarrowError")) (.ref (exA mg "Outside")) = some false
  k_NarrowError_Outside : PySem.W.kitOne K (.ref (exA mg "NarrowError")) (.ref (exA mg "Outside")) = some false
  s_Outside_BadBits : PySem.W.subIn K (.ref (exA mg "Outside")) (.ref (exA mg "BadBits")) = some false
  k_Outside_BadBits : PySem.W.kitOne K (.ref (exA mg "Outside")) (.ref (exA mg "BadBits")) = some false
  s_Outside_Great : PySem.W.subIn K (.ref (exA mg "Outside")) (.ref (exA mg "Great")) = some false
  k_Outside_Great : PySem.W.kitOne K (.ref (exA mg "Outside")) (.ref (exA mg "Great")) = some false
  s_Outside_NarrowError : PySem.W.subIn K (.ref (exA mg "Outside")) (.ref (exA mg "NarrowError")) = some true
  k_Outside_NarrowError : PySem.W.kitOne K (.ref (exA mg "Outside")) (.ref (exA mg "NarrowError")) = some true
  s_Outside_Outside : PySem.W.subIn K (.ref (exA mg "Outside")) (.ref (exA mg "Outside")) = some true
  k_Outside_Outside : PySem.W.kitOne K (.ref (exA mg "Outside")) (.ref (exA mg "Outside")) = some true
theorem Zs.c_MOST_COUNT {K : PySem.W.Frag} {mg : Str → Option Value} (Z : Zs K mg) : mg "MOST_COUNT" = some (.int (2199023255550) (Classical.choose Z.e_MOST_COUNT)) := Classical.choose_spec Z.e_MOST_COUNT
theorem Zs.c_MOST_ZEROS {K : PySem.W.Frag} {mg : Str → Option Value} (Z : Zs K mg) : mg "MOST_ZEROS" = some (.int (40) (Classical.choose Z.e_MOST_ZEROS)) := Classical.choose_spec Z.e_MOST_ZEROS
/-! ### the promises -/
def bitsV (w n : Nat) : List V := (fixL w n).map V.int
def Bits (bs : List Int) : Prop := ∀ b ∈ bs, isBit b
def sp_fixed (_ : PySem.W.Frag) (mg : Str → Option Value) : Sp := SpN 2 fun vs H Q E => ∃ (n w : Int), vs = [.int n, .int w] ∧
  ((0 ≤ n ∧ 0 ≤ w ∧ w ≤ 10000 ∧ n.toNat < 2 ^ w.toNat ∧ ∀ p H', Same H H' → H p = none → H' p = some (.lst (bitsV w.toNat n.toNat)) → Q (.ref p) H') ∨
   (¬ (0 ≤ n ∧ 0 ≤ w ∧ n.toNat < 2 ^ w.toNat) ∧ E (.ref (exA mg "Outside")) none H))
def sp_is_bit (_ : PySem.W.Frag) (_ : Str → Option Value) : Sp := SpN 1 fun vs H Q _ => ∃ (b : Int), vs = [.int b] ∧ isBit b ∧ Q (.bl true) H
def sp_check_bits (K : PySem.W.Frag) (_ : Str → Option Value) : Sp := SpN 1 fun vs H Q _ => ∃ (a : Addr) (bs : List Int), vs = [.ref a] ∧ SqL K H a (bs.map V.int) ∧ Bits bs ∧ Q .non H
def sp_number_of (K : PySem.W.Frag) (_ : Str → Option Value) : Sp := SpN 1 fun vs H Q _ => ∃ (a : Addr) (bs : List Int), vs = [.ref a] ∧ SqL K H a (bs.map V.int) ∧ Q (.int (numL bs)) H
def sp_count_bits (_ : PySem.W.Frag) (mg : Str → Option Value) : Sp := SpN 1 fun vs H Q E => ∃ (n : Int), vs = [.int n] ∧
  ((0 ≤ n ∧ n ≤ 2199023255550 ∧ ∀ p H', Same H H' → H p = none → H' p = some (.lst ((countL n.toNat).map V.int)) → Q (.ref p) H') ∨
   (¬ (0 ≤ n ∧ n ≤ 2199023255550) ∧ E (.ref (exA mg "Great")) none H))
def sp_count_at (K : PySem.W.Frag) (_ : Str → Option Value) : Sp := SpN 2 fun vs H Q _ => ∃ (a : Addr) (bs : List Int) (n : Nat), vs = [.ref a, .int n] ∧ SqL K H a (bs.map V.int) ∧ n ≤ bs.length ∧ bs.length ≤ 10000 ∧
  ∀ p H', Same H H' → H p = none → H' p = some (.tup (cntR bs n)) → Q (.ref p) H'
def sp_check_place (K : PySem.W.Frag) (_ : Str → Option Value) : Sp := SpN 2 fun vs H Q _ => ∃ (a : Addr) (bs : List Int) (n : Nat), vs = [.ref a, .int n] ∧ SqL K H a (bs.map V.int) ∧ n ≤ bs.length ∧ Bits bs ∧ Q .non H
def sp_read_count (K : PySem.W.Frag) (_ : Str → Option Value) : Sp := SpN 2 fun vs H Q _ => ∃ (a : Addr) (bs : List Int) (n : Nat), vs = [.ref a, .int n] ∧ SqL K H a (bs.map V.int) ∧ n ≤ bs.length ∧ bs.length ≤ 10000 ∧ Bits bs ∧
  ∀ p H', Same H H' → H p = none → H' p = some (.tup (cntR bs n)) → Q (.ref p) H'
def sp_law_pool (K : PySem.W.Frag) (_ : Str → Option Value) : Sp := SpN 2 fun vs H Q _ => ∃ (s : Addr) (ns : List Int) (k : Int), vs = [.ref s, .int k] ∧ SqL K H s (ns.map V.int) ∧ 0 ≤ k ∧ k < 100 ∧
  ∀ p H', Src H H' p → Q (.ref p) H'
def sp_law_take (_ : PySem.W.Frag) (_ : Str → Option Value) : Sp := SpN 2 fun vs H Q _ => ∃ (F : Hp) (p : Addr) (t : Int), vs = [.ref p, .int t] ∧ Src F H p ∧ 0 < t ∧ t < 1073741824 ∧
  ∀ r H', Src F H' p → Stp (S1 p) F H F H' → 0 ≤ r → r < t → Q (.int r) H'
def sp_law_bits (_ : PySem.W.Frag) (_ : Str → Option Value) : Sp := SpN 2 fun vs H Q _ => ∃ (F : Hp) (p : Addr) (m : Int), vs = [.ref p, .int m] ∧ Src F H p ∧ 0 ≤ m ∧ m ≤ 1000 ∧
  ∀ q bs F' H', Src F' H' p → Stp (S1 p) F H F' H' → F' q = some (.lst (bs.map V.int)) → Bits bs → (bs.length : Int) ≤ m → Q (.ref q) H'
def sp_law_digits (_ : PySem.W.Frag) (_ : Str → Option Value) : Sp := SpN 1 fun vs H Q _ => ∃ (n : Nat), vs = [.int n] ∧ n < 2 ^ 1000 ∧
  ∀ p H', Same H H' → H p = none → H' p = some (.lst ((fixL (blen n) n).map V.int)) → Q (.ref p) H'
def sp_law_are_bits (K : PySem.W.Frag) (_ : Str → Option Value) : Sp := SpN 1 fun vs H Q _ => ∃ (a : Addr) (bs : List Int), vs = [.ref a] ∧ H a = some (.lst (bs.map V.int)) ∧ Bits bs ∧ ∀ H', Same H H' → Q (.bl true) H'
def sp_law_count (_ : PySem.W.Frag) (_ : Str → Option Value) : Sp := SpN 1 fun vs H Q _ => ∃ (F : Hp) (p : Addr), vs = [.ref p] ∧ Src F H p ∧ ∀ r H', Src F H' p → Stp (S1 p) F H F H' → 0 ≤ r → r ≤ 2199023255550 → Q (.int r) H'
def sp_law_code (_ : PySem.W.Frag) (_ : Str → Option Value) : Sp := SpN 1 fun vs H Q _ => ∃ (n : Nat), vs = [.int n] ∧ n ≤ 2199023255550 ∧
  ∀ p H', Same H H' → H p = none → H' p = some (.lst ((countL n).map V.int)) → Q (.ref p) H'
def tt_law_word (_ : PySem.W.Frag) (mg : Str → Option Value) : (XK → Hp → VK → Prop) → Hp → VK → Prop := fun tl H Q =>
  tl (fun cls d H' => d = none ∧ ((cls = .ref (exA mg "Great") ∧ ∀ p H2, Same H' H2 → H2 p = some (.tup [.str "great", .bl true, .bl false]) → Q (.ref p) H2) ∨
      (cls = .ref (exA mg "Outside") ∧ ∀ p H2, Same H' H2 → H2 p = some (.tup [.str "outside", .bl true, .bl false]) → Q (.ref p) H2))) H
    fun v H1 => ∀ p H2, Same H1 H2 → H2 p = some (.tup [.str "told", v]) → Q (.ref p) H2
def sp_law_fixed_right (T : Tbs) (_ : PySem.W.Frag) (_ : Str → Option Value) : Sp := SpN 1 fun vs H Q _ => ∃ (F : Hp) (p : Addr), vs = [.ref p] ∧ Src F H p ∧ NoT F ∧ LamX.Tabs T H ∧
  ∀ H', Src F H' p → LamX.Tabs T H' → Q (.bl true) H'
def sp_law_read_right (_ : PySem.W.Frag) (_ : Str → Option Value) : Sp := SpN 1 fun vs H Q _ => ∃ (F : Hp) (p : Addr), vs = [.ref p] ∧ Src F H p ∧
  ∀ F' H', Src F' H' p → Stp (S1 p) F H F' H' → Q (.bl true) H'
def sp_law (T : Tbs) (K : PySem.W.Frag) (_ : Str → Option Value) : Sp := SpN 1 fun vs H Q _ => ∃ (a : Addr) (ns : List Int), vs = [.ref a] ∧ SqL K H a (ns.map V.int) ∧ ns.length ≤ 63 ∧ LamX.Tabs T H ∧ ∀ H', Q (.bl true) H'
theorem law_start {T : Tbs} {K : PySem.W.Frag} {mg : Str → Option Value} {H : Hp} {a : Addr} {ns : List Int} {E : XK} (hl : ns.length ≤ 63) (ht : ∀ t ∈ T, H t.1 = some (.tbl #[])) (hS : SqL K H a (ns.map V.int)) : sp_law T K mg [.ref a] H (fun v _ => v = .bl true) E := ⟨rfl, a, ns, rfl, hS, hl, tabs_nil ht, fun _ => rfl⟩
theorem fixL_cons : ∀ (j n : Nat), fixL (j + 1) n = ((n / 2 ^ j % 2 : Nat) : Int) :: fixL j n
  | 0, n => by simp [fixL]
  | j + 1, n => by
    have e : fixL (j + 1 + 1) n = fixL (j + 1) (n / 2) ++ [((n % 2 : Nat) : Int)] := rfl
    rw [e, fixL_cons j (n / 2), Nat.div_div_eq_div_mul, ← Nat.pow_succ']
    rfl
theorem lt_blen {n j : Nat} : j < blen n ↔ 2 ^ j ≤ n := by
  unfold blen
  by_cases h : n = 0
  · subst h; simp
  · rw [if_neg h]
    have := Nat.le_log2 (n := n) (k := j) h
    omega
theorem Bits.app {a b : List Int} (ha : Bits a) (hb : Bits b) : Bits (a ++ b) := fun x hx => (List.mem_append.mp hx).elim (ha x) (hb x)
theorem at_nat' {xs : List V} {j : Nat} {v : V} (h : xs[j]? = some v) : atI xs (j : Int) = some v := atI_nat h
theorem fixL_pad (w n : Nat) (h : n < 2 ^ w) : ∀ k, fixL (k + w) n = List.replicate k 0 ++ fixL w n
  | 0 => by simp
  | k + 1 => by
    have e : n / 2 ^ (k + w) = 0 := Nat.div_eq_of_lt (Nat.lt_of_lt_of_le h (Nat.pow_le_pow_right (by decide) (by omega)))
    rw [show k + 1 + w = (k + w) + 1 by omega, fixL_cons, e, fixL_pad w n h k]
    rfl
theorem numL_lt (bs : List Int) (h : Bits bs) : ∀ j, j ≤ bs.length → 0 ≤ numL (bs.take j) ∧ numL (bs.take j) < 2 ^ j
  | 0, _ => by rw [List.take_zero]; exact ⟨by decide, by decide⟩
  | j + 1, hj => by
    have ih := numL_lt bs h j (by omega)
    have hx := h bs[j] (List.getElem_mem (by omega))
    rw [List.take_succ_eq_append_getElem (by omega), numL_snoc, Int.pow_succ]
    rcases hx with e | e <;> rw [e] <;> omega
open PyData in
theorem shaped_told (s : Str) (hs : strOk s = true) (ns : List Int) : SeqAt.shaped (.tuple [.str s, .list (ns.map .int)]) = true := by
  have h := depthAll_ints ns
  have e : (PyData.tuple [.str s, .list (ns.map .int)]).depth ≤ 3 := by
    simp only [PyData.depth, PyData.depthAll]; omega
  refine Bool.and_eq_true_iff.mpr ⟨?_, decide_eq_true (by omega)⟩
  simp [canLay0, canLayAll0, canLay_ints, hs]
theorem dp_told {K : PySem.W.Frag} {H : Hp} {a b : Addr} {s : Str} {ns : List Int} (h : SqT K H a [.str s, .ref b]) (hb : SqL K H b (ns.map V.int)) : Dp K H (.ref a) (.tuple [.str s, .list (ns.map .int)]) := .tup h (.cons (.str s) (.cons (dp_ints hb) .nil))
theorem s_neTold {K : PySem.W.Frag} {H : Hp} {Q : VK} {a b c d : Addr} {s : Str} {ns : List Int} (hs : PyData.strOk s = true) (h1 : SqT K H a [.str s, .ref c]) (h2 : SqT K H b [.str s, .ref d]) (hc : SqL K H c (ns.map V.int)) (hd : SqL K H d (ns.map V.int)) (q : Q (.bl false) H) : rNeD K (.ref a) (.ref b) H Q :=
  ⟨_, _, dp_told h1 hc, dp_told h2 hd, shaped_told s hs ns, shaped_told s hs ns, by rw [SeqAt.eqv_refl _ (SeqAt.canLay_of_shaped (shaped_told s hs ns))]; exact q⟩
theorem s_eqTold {K : PySem.W.Frag} {H : Hp} {Q : VK} {a b c d : Addr} {s : Str} {ns : List Int} (hs : PyData.strOk s = true) (h1 : SqT K H a [.str s, .ref c]) (h2 : SqT K H b [.str s, .ref d]) (hc : SqL K H c (ns.map V.int)) (hd : SqL K H d (ns.map V.int)) (q : Q (.bl true) H) : rEqD K (.ref a) (.ref b) H Q :=
  ⟨_, _, dp_told h1 hc, dp_told h2 hd, shaped_told s hs ns, shaped_told s hs ns, by rw [SeqAt.eqv_refl _ (SeqAt.canLay_of_shaped (shaped_told s hs ns))]; exact q⟩
theorem Stp.ofSame {S : Addr → Prop} {F H H' : Hp} (h : Same F H) (s : Same H H') : Stp S F H F H' := ⟨Same.refl F, h.trans s, fun _ _ _ => rfl, fun b o _ e => s b o e, fun b o e => ⟨o, s b o e⟩⟩
section
variable {P : Program} {w : World} {K : PySem.W.Frag} {mg : Str → Option Value} {base : Heap}
abbrev s_fixed : Stmt := topS 11
theorem sc_fixed : FnScope ["n", "w", "digit"] ["n", "w"] (defScope s_fixed) := ⟨rfl, rfl, rfl, by decide +kernel, rfl, by decide +kernel, by decide +kernel⟩
def Ok_fixed (P : Program) (w : World) (K : PySem.W.Frag) (mg : Str → Option Value) (base : Heap) : Prop := ∃ fA fd, Fn P w K mg base (L2.CX P w) 1 "fixed" s_fixed fA fd ["n", "w"] (sp_fixed K mg)
theorem okx_fixed (Z : Zs K mg) {fA : Addr} {fd : FuncData} (F : Fun K "fixed" "fixed" s_fixed fA fd) (m : mg "fixed" = some (.ref fA))  : Fn P w K mg base (L2.CX P w) 1 "fixed" s_fixed fA fd ["n", "w"] (sp_fixed K mg) := by
  refine ⟨F.okX sc_fixed (fun vs H Q E h => h.1) (fun cdv A outer s H vs Q E hr h => ?_), m, F.kp, F.binds fun _ _ _ _ _ _ us hl => match us, hl with | [_, _], _ => rfl, F⟩
  have hu64 := hr.units
  obtain ⟨hlen, h⟩ := h
  refine ⟨_, (pss_cons (ps_if (PW.pt (pw_or (pt_cmpR op_lt (pv 0) pe_int (nomark _)) (pw_or (pt_cmpR op_lt (pv 1) pe_int (nomark _)) (pw_or1 (pt_cmpR op_gt (pe_bits (pv 0)) (pv 1) (nomark _))))))
      (pss_one (ps_raise rfl (takes_of rfl rfl rfl rfl) (pmk_own0 PySem.F.excBase_ValueError Z.x_Outside.x Z.x_Outside.g Z.x_Outside.k (raises_own Z.x_Outside.b Z.x_Outside.t) rfl)))
      pss_nil)
    (pss_cons (ps_if (pt_cmpR op_eq (pv 1) pe_int (nomark _))
      (pss_one (ps_ret (pe_lst pa_nil)))
      pss_nil)
    (pss_one (ps_ret (pe_lc (own := [("digit", 2)]) (g := gName 2) (tt := tYes) (by rfl) sc_fixed.nd (pi_str (pe_bm PySem.F.plainAttrs_str PySem.F.slot_str_zfill PySem.F.type_str_zfill mt_zfill (pe_joined1 (pe_fmtB (pv 0))) (pa_cons (pv 1) pa_nil))) (blkOk_by (own := [("digit", 2)]) (N := ["n", "w", "digit"]) (sc := defScope s_fixed) (by decide +kernel)) (fun _ _ _ _ _ => (pg_name (i := 2) sc_fixed.nd rfl (Or.inl rfl))) (fun _ _ _ _ _ => pts_nil) (fun _ _ _ _ _ => (pe_callTy call_int_str (by rfl) Z.z_int (by decide +kernel) (pa_cons (pv 2) pa_nil)))))))), ?_⟩
  obtain ⟨n, w, rfl, ⟨hn, hw, hw2, hlt, k⟩ | ⟨hno, k⟩⟩ := h
  rotate_left
  · walk_at "r"
    refine ifd (fun h => ?_) (fun h1 => ?_)
    · walk_at "r"
      exact k
    walk_at "r"
    refine ifd (fun h => ?_) (fun h2 => ?_)
    · walk_at "r"
      exact k
    walk_at "r"
    refine ifd (fun h => ?_) (fun h3 => ?_)
    · walk_at "r"
      exact k
    · exact absurd ⟨by omega, by omega, (intBits_le (by omega)).mp (by omega)⟩ hno
  walk_at "r"
  refine ifd (fun h => absurd h (by omega)) (fun _ => ?_)
  walk_at "r"
  refine ifd (fun h => absurd h (by omega)) (fun _ => ?_)
  walk_at "r"
  have hb := (intBits_le (w := w.toNat) hn).mpr hlt
  refine ifd (fun h => absurd h (by omega)) (fun _ => ?_)
  walk_at "r"
  refine ifd (fun h => ?_) (fun h => ?_)
  · walk_at "r"
    subst h
    exact ⟨sz (by simp), fun p hp => k p _ (Stp.new (S := S0) (Same.refl H) hp).same hp upd_same⟩
  · walk_at "r"
    obtain ⟨w', rfl⟩ : ∃ w' : Nat, w = ((w' + 1 : Nat) : Int) := ⟨w.toNat - 1, by omega⟩
    rw [Int.toNat_natCast] at hlt k
    have en : n.natAbs = n.toNat := by omega
    refine ⟨hn, Nat.le_trans (bits_le (n := n.natAbs) (by rw [en]; exact hlt)) (by omega), ?_⟩
    refine ⟨rfl, ?_⟩
    walk_at "r"
    refine ⟨_, _, rfl, rfl, pad_ok (by omega), ?_⟩
    refine ⟨_, rfl, ?_⟩
    have hz := zfill_bin hlt
    rw [show n.toNat = n.natAbs by omega] at hz
    have hs : (Txt.zfill (binText n.natAbs) ((w' + 1 : Nat) : Int)).cps.size = w' + 1 := by
      rw [← Array.length_toList, hz, List.length_map, fixL_len]
    refine lcW walk_str S0 (Same.refl H) (fun _ z => z.elim) (fun _ _ _ => trivial) (fun i acc F1 H1 => acc = (bitsV (w' + 1) n.toNat).take i) (fun _ _ _ _ _ _ _ _ _ r => r) rfl ?_ ?_
    · rintro i x acc d F1 H1 H2 hi ⟨rfl, c, hc, rfl⟩ hd nS st f0 e hl r
      walk_at "r"
      have hc2 : ((fixL (w' + 1) n.natAbs).map code)[i]? = some c := by rw [← hz]; simpa using hc
      rw [List.getElem?_map] at hc2
      cases hb2 : (fixL (w' + 1) n.natAbs)[i]? with
      | none => rw [hb2] at hc2; cases hc2
      | some b =>
        rw [hb2] at hc2
        have ec : code b = c := Option.some.inj hc2
        subst ec
        refine ⟨_, _, rfl, text_bit (fixL_bit _ _ b (List.mem_of_getElem? hb2)), (by show 1 ≤ 640; decide), ?_⟩
        refine lc_end hd nS st f0 e hl (by rw [hs] at hi; omega) (.rfl' st.fh) ?_
        have hi2 : i < (bitsV (w' + 1) n.toNat).length := by simp [bitsV, fixL_len]; rw [hs] at hi; exact hi
        rw [r, List.take_succ_eq_append_getElem hi2]
        congr 2
        have q2 : (bitsV (w' + 1) n.toNat)[i]? = some (V.int b) := by rw [bitsV, List.getElem?_map, ← en, hb2]; rfl
        rw [List.getElem?_eq_getElem hi2] at q2
        exact (Option.some.inj q2).symm
    · intro d acc F0 F1 H1 st hd f0 ef st1 hl r
      refine k d H1 st.same hd ?_
      rw [ef] at st1
      rw [st1.fh _ _ upd_same, r, hs, List.take_of_length_le (by simp [bitsV, fixL_len])]
abbrev s_is_bit : Stmt := topS 8
theorem sc_is_bit : FnScope ["thing"] ["thing"] (defScope s_is_bit) := ⟨rfl, rfl, rfl, by decide +kernel, rfl, by decide +kernel, by decide +kernel⟩
def Ok_is_bit (P : Program) (w : World) (K : PySem.W.Frag) (mg : Str → Option Value) (base : Heap) : Prop := ∃ fA fd, Fn P w K mg base (L2.CX P w) 1 "is_bit" s_is_bit fA fd ["thing"] (sp_is_bit K mg)
theorem okx_is_bit (Z : Zs K mg) {fA : Addr} {fd : FuncData} (F : Fun K "is_bit" "is_bit" s_is_bit fA fd) (m : mg "is_bit" = some (.ref fA))  : Fn P w K mg base (L2.CX P w) 1 "is_bit" s_is_bit fA fd ["thing"] (sp_is_bit K mg) := by
  refine ⟨F.okX sc_is_bit (fun vs H Q E h => h.1) (fun cdv A outer s H vs Q E hr h => ?_), m, F.kp, F.binds fun _ _ _ _ _ _ us hl => match us, hl with | [_], _ => rfl, F⟩
  have hu64 := hr.units
  obtain ⟨hlen, h⟩ := h
  refine ⟨_, (pss_one (ps_ret (pe_and (pe_callB (c_isi K rfl) (by rfl) Z.z_isinstance (by decide +kernel) (pa_cons (pv 0) (pa_cons (pe_bltn (v := .ty "int") (by rfl) Z.z_int (by decide +kernel) rfl) pa_nil))) (pe_and (pe_not (pe_callB (c_isi K rfl) (by rfl) Z.z_isinstance (by decide +kernel) (pa_cons (pv 0) (pa_cons (pe_bltn (v := .ty "bool") (by rfl) Z.z_bool (by decide +kernel) rfl) pa_nil)))) (pe_one (pe_chain op_le op_le pe_int (pv 0) pe_int)))))), ?_⟩
  obtain ⟨b, rfl, hb, q⟩ := h
  have hb2 : 0 ≤ b ∧ b ≤ 1 := by rcases hb with rfl | rfl <;> decide
  walk_at "r"
  refine s_isi (b := true) (.base (.int b)) (by decide +kernel) ?_
  walk_at "r"
  refine s_isi (b := false) (.base (.int b)) (by decide +kernel) ?_
  walk_at "r"
  refine ifd (fun h => ?_) (fun h => absurd hb2.1 h)
  walk_at "r"
  rw [decide_eq_true hb2.2]
  exact q
abbrev s_check_bits : Stmt := topS 9
theorem sc_check_bits : FnScope ["bits", "bit"] ["bits"] (defScope s_check_bits) := ⟨rfl, rfl, rfl, by decide +kernel, rfl, by decide +kernel, by decide +kernel⟩
def Ok_check_bits (P : Program) (w : World) (K : PySem.W.Frag) (mg : Str → Option Value) (base : Heap) : Prop := ∃ fA fd, Fn P w K mg base (L2.CX P w) 2 "check_bits" s_check_bits fA fd ["bits"] (sp_check_bits K mg)
theorem okx_check_bits (Z : Zs K mg) {fA : Addr} {fd : FuncData} (F : Fun K "check_bits" "check_bits" s_check_bits fA fd) (m : mg "check_bits" = some (.ref fA)) (C_is_bit : Ok_is_bit P w K mg base) : Fn P w K mg base (L2.CX P w) 2 "check_bits" s_check_bits fA fd ["bits"] (sp_check_bits K mg) := by
  obtain ⟨_, _, C_is_bit⟩ := C_is_bit
  refine ⟨F.okX sc_check_bits (fun vs H Q E h => h.1) (fun cdv A outer s H vs Q E hr h => ?_), m, F.kp, F.binds fun _ _ _ _ _ _ us hl => match us, hl with | [_], _ => rfl, F⟩
  have hu64 := hr.units
  obtain ⟨hlen, h⟩ := h
  refine ⟨_, (pss_one (ps_for (passes_of rfl) rfl (pi_list (pv 0)) (pg_name (i := 1) sc_check_bits.nd rfl (Or.inl rfl))
      (pss_one (ps_if (pt_not (pt_val (pe_call C_is_bit.G (hr.mono (by decide)) rfl C_is_bit.m C_is_bit.kp C_is_bit.b .nil passL (pa_cons (pv 1) pa_nil))))
      (pss_one (ps_raise rfl (takes_of rfl rfl rfl rfl) (pmk_own0 PySem.F.excBase_ValueError Z.x_BadBits.x Z.x_BadBits.g Z.x_BadBits.k (raises_own Z.x_BadBits.b Z.x_BadBits.t) rfl)))
      pss_nil)))), ?_⟩
  obtain ⟨a, bs, rfl, hS, hb, q⟩ := h
  walk_at "r"
  refine ⟨_, rfl, ⟨_, hS⟩, ?_⟩
  refine forL (xs := bs.map V.int) (fun i σ H' => ∃ v, σ = [some (.ref a), v] ∧ H = H') ⟨_, rfl, rfl⟩ (fun i σ H' _ ⟨_, _, e⟩ => e ▸ hS) ?_ ?_
  · rintro i x σ H' hx ⟨v, rfl, rfl⟩
    rw [List.getElem?_map] at hx
    cases z : bs[i]? with
    | none => rw [z] at hx; cases hx
    | some b =>
      rw [z] at hx
      cases hx
      walk_at "r"
      refine ⟨rfl, b, rfl, hb b (List.mem_of_getElem? z), ?_⟩
      walk_at "r"
      exact ⟨_, rfl, rfl⟩
  · rintro σ H' ⟨v, rfl, rfl⟩
    exact q
abbrev s_count_bits : Stmt := topS 12
theorem sc_count_bits : FnScope ["n", "width"] ["n"] (defScope s_count_bits) := ⟨rfl, rfl, rfl, by decide +kernel, rfl, by decide +kernel, by decide +kernel⟩
def Ok_count_bits (P : Program) (w : World) (K : PySem.W.Frag) (mg : Str → Option Value) (base : Heap) : Prop := ∃ fA fd, Fn P w K mg base (L2.CX P w) 2 "count_bits" s_count_bits fA fd ["n"] (sp_count_bits K mg)
theorem okx_count_bits (Z : Zs K mg) {fA : Addr} {fd : FuncData} (F : Fun K "count_bits" "count_bits" s_count_bits fA fd) (m : mg "count_bits" = some (.ref fA)) (C_fixed : Ok_fixed P w K mg base) : Fn P w K mg base (L2.CX P w) 2 "count_bits" s_count_bits fA fd ["n"] (sp_count_bits K mg) := by
  obtain ⟨_, _, C_fixed⟩ := C_fixed
  refine ⟨F.okX sc_count_bits (fun vs H Q E h => h.1) (fun cdv A outer s H vs Q E hr h => ?_), m, F.kp, F.binds fun _ _ _ _ _ _ us hl => match us, hl with | [_], _ => rfl, F⟩
  have hu64 := hr.units
  obtain ⟨hlen, h⟩ := h
  refine ⟨_, (pss_cons (ps_if (pt_not (pt_chain op_le op_le pe_int (pv 0) (pe_glob (v := .int (2199023255550)) rfl Z.c_MOST_COUNT ⟨_, rfl⟩)))
      (pss_one (ps_raise rfl (takes_of rfl rfl rfl rfl) (pmk_own0 PySem.F.excBase_ValueError Z.x_Great.x Z.x_Great.g Z.x_Great.k (raises_own Z.x_Great.b Z.x_Great.t) rfl)))
      pss_nil)
    (pss_cons (ps_set (i := 1) sc_count_bits.nd rfl (Or.inl rfl) (pe_bits (pe_op op_add (pv 0) pe_int)))
    (pss_one (ps_ret (pe_op op_cat (pe_op op_rep (pe_lst (pa_cons pe_int pa_nil)) (pe_op op_sub (pv 1) pe_int)) (pe_call C_fixed.G (hr.mono (by decide)) rfl C_fixed.m C_fixed.kp C_fixed.b .nil passL (pa_cons (pe_op op_add (pv 0) pe_int) (pa_cons (pv 1) pa_nil)))))))), ?_⟩
  obtain ⟨n, rfl, hh⟩ := h
  walk_at "r"
  refine ifd (fun h0 => ?_) (fun h0 => ?_)
  · walk_at "r"
    refine ifn (fun h1 => ?_) (fun h1 => ?_)
    · rcases hh with ⟨_, _, q⟩ | ⟨z, _⟩
      · walk_at "r"
        have eb := intBits_blen (n := n + 1) (by omega)
        have b1 := blen_pos (n := (n + 1).toNat) (by omega)
        have b2 := blen_lt (n + 1).toNat
        have b3 : blen (n + 1).toNat ≤ 41 := blen_le (by omega)
        rw [eb]
        refine ⟨sz (by simp), fun a ha => ?_⟩
        have s1 := Stp.new (S := S0) (o := .lst [.int 0]) (Same.refl H) ha
        walk_at "r"
        refine s_rep upd_same (by omega) (by omega) fun b hb => ?_
        have s2 := Stp.new (S := S0) (o := .lst (List.replicate ((blen (n + 1).toNat : Int) - 1).toNat (V.int 0))) s1.fh hb
        walk_at "r"
        refine ⟨rfl, _, _, rfl, .inl ⟨by omega, by omega, by omega, by rw [Int.toNat_natCast]; exact b2, fun c H3 e3 c0 hc => ?_⟩⟩
        refine ⟨_, _, _, _, rfl, rfl, e3 _ _ upd_same, hc, sz (by simp [bitsV, fixL_len]; omega), fun d hd => ?_⟩
        have s4 := Stp.new (S := S0) (o := .lst (List.replicate ((blen (n + 1).toNat : Int) - 1).toNat (V.int 0) ++ bitsV ((blen (n + 1).toNat : Nat) : Int).toNat (n + 1).toNat)) (Same.refl H3) hd
        have e4 := ((s1.trans s2).same.trans e3).trans s4.same
        refine q d _ e4 (((s1.trans s2).same.trans e3).free hd) ?_
        rw [upd_same]
        unfold countL
        rw [List.map_append, List.map_replicate, show (n + 1).toNat = n.toNat + 1 by omega, Int.toNat_natCast, show ((blen (n.toNat + 1) : Int) - 1).toNat = blen (n.toNat + 1) - 1 by omega]
        rfl
      · exact absurd ⟨h0, h1⟩ z
    · rcases hh with ⟨_, z, _⟩ | ⟨_, q⟩
      · exact absurd z h1
      · exact q
  · walk_at "r"
    rcases hh with ⟨z, _, _⟩ | ⟨_, q⟩
    · exact absurd z h0
    · exact q
abbrev s_number_of : Stmt := topS 10
theorem sc_number_of : FnScope ["bits", "found", "bit"] ["bits"] (defScope s_number_of) := ⟨rfl, rfl, rfl, by decide +kernel, rfl, by decide +kernel, by decide +kernel⟩
def Ok_number_of (P : Program) (w : World) (K : PySem.W.Frag) (mg : Str → Option Value) (base : Heap) : Prop := ∃ fA fd, Fn P w K mg base (L2.CX P w) 1 "number_of" s_number_of fA fd ["bits"] (sp_number_of K mg)
theorem okx_number_of (Z : Zs K mg) {fA : Addr} {fd : FuncData} (F : Fun K "number_of" "number_of" s_number_of fA fd) (m : mg "number_of" = some (.ref fA))  : Fn P w K mg base (L2.CX P w) 1 "number_of" s_number_of fA fd ["bits"] (sp_number_of K mg) := by
  refine ⟨F.okX sc_number_of (fun vs H Q E h => h.1) (fun cdv A outer s H vs Q E hr h => ?_), m, F.kp, F.binds fun _ _ _ _ _ _ us hl => match us, hl with | [_], _ => rfl, F⟩
  have hu64 := hr.units
  obtain ⟨hlen, h⟩ := h
  refine ⟨_, (pss_cons (ps_set (i := 1) sc_number_of.nd rfl (Or.inl rfl) pe_int)
    (pss_cons (ps_for (passes_of rfl) rfl (pi_list (pv 0)) (pg_name (i := 2) sc_number_of.nd rfl (Or.inl rfl))
      (pss_one (ps_set (i := 1) sc_number_of.nd rfl (Or.inl rfl) (pe_op op_add (pe_op op_mul pe_int (pv 1)) (pv 2)))))
    (pss_one (ps_ret (pv 1))))), ?_⟩
  obtain ⟨a, bs, rfl, hS, q⟩ := h
  walk_at "r"
  refine ⟨_, rfl, ⟨_, hS⟩, ?_⟩
  refine forL (xs := bs.map V.int) (fun i σ H' => ∃ v, σ = [some (.ref a), some (.int (numL (bs.take i))), v] ∧ H = H') ⟨_, rfl, rfl⟩ (fun i σ H' _ ⟨_, _, e⟩ => e ▸ hS) ?_ ?_
  · rintro i x σ H' hx ⟨v, rfl, rfl⟩
    rw [List.getElem?_map] at hx
    cases z : bs[i]? with
    | none => rw [z] at hx; cases hx
    | some b =>
      rw [z] at hx
      cases hx
      have hi : i < bs.length := (List.getElem?_eq_some_iff.mp z).1
      have et : bs.take (i + 1) = bs.take i ++ [b] := by
        rw [List.take_succ_eq_append_getElem hi]
        rw [List.getElem?_eq_getElem hi] at z
        rw [Option.some.inj z]
      have hv : 2 * numL (bs.take i) + b = numL (bs.take (i + 1)) := by rw [et, numL_snoc]
      walk_at "r"
      rw [hv]
      exact ⟨_, rfl, rfl⟩
  · rintro σ H' ⟨v, rfl, rfl⟩
    rw [List.length_map, List.take_length]
    walk_at "r"
    exact q
abbrev s_check_place : Stmt := topS 14
theorem sc_check_place : FnScope ["bits", "at"] ["bits", "at"] (defScope s_check_place) := ⟨rfl, rfl, rfl, by decide +kernel, rfl, by decide +kernel, by decide +kernel⟩
def Ok_check_place (P : Program) (w : World) (K : PySem.W.Frag) (mg : Str → Option Value) (base : Heap) : Prop := ∃ fA fd, Fn P w K mg base (L2.CX P w) 3 "check_place" s_check_place fA fd ["bits", "at"] (sp_check_place K mg)
theorem okx_check_place (Z : Zs K mg) {fA : Addr} {fd : FuncData} (F : Fun K "check_place" "check_place" s_check_place fA fd) (m : mg "check_place" = some (.ref fA)) (C_check_bits : Ok_check_bits P w K mg base) : Fn P w K mg base (L2.CX P w) 3 "check_place" s_check_place fA fd ["bits", "at"] (sp_check_place K mg) := by
  obtain ⟨_, _, C_check_bits⟩ := C_check_bits
  refine ⟨F.okX sc_check_place (fun vs H Q E h => h.1) (fun cdv A outer s H vs Q E hr h => ?_), m, F.kp, F.binds fun _ _ _ _ _ _ us hl => match us, hl with | [_, _], _ => rfl, F⟩
  have hu64 := hr.units
  obtain ⟨hlen, h⟩ := h
  refine ⟨_, (pss_cons (ps_expr (pe_call C_check_bits.G (hr.mono (by decide)) rfl C_check_bits.m C_check_bits.kp C_check_bits.b .nil passL (pa_cons (pv 0) pa_nil)))
    (pss_one (ps_if (pt_not (pt_chain op_le op_le pe_int (pv 1) (pe_callB (c_len K rfl) (by rfl) Z.z_len (by decide +kernel) (pa_cons (pv 0) pa_nil))))
      (pss_one (ps_raise rfl (takes_of rfl rfl rfl rfl) (pmk_own0 PySem.F.excBase_ValueError Z.x_Outside.x Z.x_Outside.g Z.x_Outside.k (raises_own Z.x_Outside.b Z.x_Outside.t) rfl)))
      pss_nil))), ?_⟩
  obtain ⟨a, bs, n, rfl, hS, hn, hb, q⟩ := h
  walk_at "r"
  refine ⟨rfl, a, bs, rfl, hS, hb, ?_⟩
  walk_at "r"
  refine ifd (fun _ => ?_) (fun h => absurd (by omega) h)
  walk_at "r"
  refine ifn (fun _ => ?_) (fun h => absurd (by simp; omega) h)
  exact q
abbrev s_count_at : Stmt := topS 13
theorem sc_count_at : FnScope ["bits", "at", "place", "zeros", "behind"] ["bits", "at"] (defScope s_count_at) := ⟨rfl, rfl, rfl, by decide +kernel, rfl, by decide +kernel, by decide +kernel⟩
def Ok_count_at (P : Program) (w : World) (K : PySem.W.Frag) (mg : Str → Option Value) (base : Heap) : Prop := ∃ fA fd, Fn P w K mg base (L2.CX P w) 2 "count_at" s_count_at fA fd ["bits", "at"] (sp_count_at K mg)
theorem okx_count_at (Z : Zs K mg) {fA : Addr} {fd : FuncData} (F : Fun K "count_at" "count_at" s_count_at fA fd) (m : mg "count_at" = some (.ref fA)) (C_number_of : Ok_number_of P w K mg base) : Fn P w K mg base (L2.CX P w) 2 "count_at" s_count_at fA fd ["bits", "at"] (sp_count_at K mg) := by
  obtain ⟨_, _, C_number_of⟩ := C_number_of
  refine ⟨F.okX sc_count_at (fun vs H Q E h => h.1) (fun cdv A outer s H vs Q E hr h => ?_), m, F.kp, F.binds fun _ _ _ _ _ _ us hl => match us, hl with | [_, _], _ => rfl, F⟩
  have hu64 := hr.units
  obtain ⟨hlen, h⟩ := h
  refine ⟨_, (pss_cons (ps_set (i := 2) sc_count_at.nd rfl (Or.inl rfl) (pv 1))
    (pss_cons (ps_while (passes_of rfl) (PW.pt (pw_and (pt_cmpR op_lt (pv 2) (pe_callB (c_len K rfl) (by rfl) Z.z_len (by decide +kernel) (pa_cons (pv 0) pa_nil)) (nomark _)) (pw_and (pt_cmpR op_le (pe_op op_sub (pv 2) (pv 1)) (pe_glob (v := .int (40)) rfl Z.c_MOST_ZEROS ⟨_, rfl⟩) (nomark _)) (pw_and1 (pt_cmpR op_eq (pe_ix (i_list K rfl) (pv 0) (pv 2) (fun _ _ => rfl)) pe_int (nomark _))))))
      (pss_one (ps_set (i := 2) sc_count_at.nd rfl (Or.inl rfl) (pe_op op_add (pv 2) pe_int))))
    (pss_cons (ps_set (i := 3) sc_count_at.nd rfl (Or.inl rfl) (pe_op op_sub (pv 2) (pv 1)))
    (pss_cons (ps_if (pt_cmpR op_gt (pv 3) (pe_glob (v := .int (40)) rfl Z.c_MOST_ZEROS ⟨_, rfl⟩) (nomark _))
      (pss_one (ps_ret (pe_tup (pa_cons pe_str pa_nil))))
      pss_nil)
    (pss_cons (ps_set (i := 4) sc_count_at.nd rfl (Or.inl rfl) (pe_op op_add (pe_op op_add (pv 2) (pv 3)) pe_int))
    (pss_cons (ps_if (pt_cmpR op_gt (pv 4) (pe_callB (c_len K rfl) (by rfl) Z.z_len (by decide +kernel) (pa_cons (pv 0) pa_nil)) (nomark _))
      (pss_one (ps_ret (pe_tup (pa_cons pe_str pa_nil))))
      pss_nil)
    (pss_one (ps_ret (pe_tup (pa_cons pe_str (pa_cons (pe_op op_sub (pe_call C_number_of.G (hr.mono (by decide)) rfl C_number_of.m C_number_of.kp C_number_of.b .nil passL (pa_cons (pe_slice (l_list K rfl) (pv 0) (po_some (pv 2)) (po_some (pv 4))) pa_nil)) pe_int) (pa_cons (pv 4) pa_nil)))))))))))), ?_⟩
  obtain ⟨a, bs, n, rfl, hS, hn, hlen, q⟩ := h
  have hz := zrun_le hn
  walk_at "r"
  refine whileM (mon_and (mon_test (mon_op mon_I0 mon_var (mon_len (mon_cons mon_var mon_nil)))) (mon_and (mon_test (mon_op mon_I0 (mon_op mon_I0 mon_var mon_var) mon_c)) (mon_test (mon_op mon_eq (mon_op mon_ixL mon_var mon_var) mon_c))))
    (fun σ H' => ∃ j : Nat, σ = [some (.ref a), some (.int n), some (.int ((n + j : Nat) : Int)), none, none] ∧ H = H' ∧ j ≤ min 41 (zrun bs n)) (fun σ _ => match σ with
      | [_, _, some (.int p), _, _] => (n + 41 - p.toNat)
      | _ => 0) ⟨0, rfl, rfl, Nat.zero_le _⟩ ?_
  rintro σ H' ⟨j, rfl, rfl, hj⟩
  walk_at "r"
  refine ifd (fun h1 => ?_) (fun h1 => ?_)
  · walk_at "r"
    refine ifd (fun h2 => ?_) (fun h2 => ?_)
    · walk_at "r"
      have hl : n + j < bs.length := by simp at h1; omega
      refine s_ixL hS (at_nat' (get_int hl)) ?_
      walk_at "r"
      refine ifd (fun h3 => ?_) (fun h3 => ?_)
      · walk_at "r"
        have hlt : j < zrun bs n := by
          refine Decidable.byContradiction fun z => ?_
          have e : j = zrun bs n := by omega
          refine zrun_end (bs := bs) (a := n) ?_
          rw [← e, List.getElem?_eq_getElem hl, h3]
        refine ⟨⟨j + 1, ?_, rfl, by omega⟩, ?_⟩
        · rfl
        · show n + 41 - (((n + j : Nat) : Int) + 1).toNat < n + 41 - (((n + j : Nat) : Int)).toNat
          omega
      · have e : j = min 41 (zrun bs n) := by
          by_cases z : j < zrun bs n
          · have q2 := zrun_at z
            rw [List.getElem?_eq_getElem hl] at q2
            exact absurd (Option.some.inj q2) h3
          · omega
        -- behind the loop
        walk_at "r"
        have ez : ((n + j : Nat) : Int) - (n : Int) = (j : Int) := by omega
        rw [ez]
        refine ifd (fun h4 => ?_) (fun h4 => ?_)
        · walk_at "r"
          refine ⟨sz (by simp), fun p hp => q p _ (Stp.new (S := S0) (Same.refl _) hp).same hp ?_⟩
          rw [upd_same, cntR, if_pos (by omega)]
        · walk_at "r"
          refine ifd (fun h5 => ?_) (fun h5 => ?_)
          · walk_at "r"
            refine ⟨sz (by simp), fun p hp => q p _ (Stp.new (S := S0) (Same.refl _) hp).same hp ?_⟩
            rw [upd_same, cntR, if_neg (by omega), if_pos (by simp at h5; omega)]
          · walk_at "r"
            have eb : ((n + j : Nat) : Int) + (j : Int) + 1 = ((n + j + j + 1 : Nat) : Int) := by omega
            rw [eb]
            refine s_slL hS fun p1 hp1 => ?_
            rw [cutV_nat, show n + j + j + 1 - (n + j) = j + 1 by omega]
            have s1 := Stp.new (S := S0) (o := .lst (((bs.map V.int).drop (n + j)).take (j + 1))) (Same.refl _) hp1
            refine ⟨rfl, p1, (bs.drop (n + j)).take (j + 1), rfl, SqL.of (by rw [upd_same, List.map_take, List.map_drop]), ?_⟩
            walk_at "r"
            refine ⟨sz (by simp), fun p hp => q p _ (s1.same.trans (Stp.new (S := S0) (Same.refl _) hp).same) (s1.same.free hp) ?_⟩
            rw [upd_same, cntR, if_neg (by omega), if_neg (by simp at h5; omega), ← e]
    · have e : j = min 41 (zrun bs n) := by omega
      -- behind the loop
      walk_at "r"
      have ez : ((n + j : Nat) : Int) - (n : Int) = (j : Int) := by omega
      rw [ez]
      refine ifd (fun h4 => ?_) (fun h4 => ?_)
      · walk_at "r"
        refine ⟨sz (by simp), fun p hp => q p _ (Stp.new (S := S0) (Same.refl _) hp).same hp ?_⟩
        rw [upd_same, cntR, if_pos (by omega)]
      · walk_at "r"
        refine ifd (fun h5 => ?_) (fun h5 => ?_)
        · walk_at "r"
          refine ⟨sz (by simp), fun p hp => q p _ (Stp.new (S := S0) (Same.refl _) hp).same hp ?_⟩
          rw [upd_same, cntR, if_neg (by omega), if_pos (by simp at h5; omega)]
        · walk_at "r"
          have eb : ((n + j : Nat) : Int) + (j : Int) + 1 = ((n + j + j + 1 : Nat) : Int) := by omega
          rw [eb]
          refine s_slL hS fun p1 hp1 => ?_
          rw [cutV_nat, show n + j + j + 1 - (n + j) = j + 1 by omega]
          have s1 := Stp.new (S := S0) (o := .lst (((bs.map V.int).drop (n + j)).take (j + 1))) (Same.refl _) hp1
          refine ⟨rfl, p1, (bs.drop (n + j)).take (j + 1), rfl, SqL.of (by rw [upd_same, List.map_take, List.map_drop]), ?_⟩
          walk_at "r"
          refine ⟨sz (by simp), fun p hp => q p _ (s1.same.trans (Stp.new (S := S0) (Same.refl _) hp).same) (s1.same.free hp) ?_⟩
          rw [upd_same, cntR, if_neg (by omega), if_neg (by simp at h5; omega), ← e]
  · have e : j = min 41 (zrun bs n) := by simp at h1; omega
    -- behind the loop
    walk_at "r"
    have ez : ((n + j : Nat) : Int) - (n : Int) = (j : Int) := by omega
    rw [ez]
    refine ifd (fun h4 => ?_) (fun h4 => ?_)
    · walk_at "r"
      refine ⟨sz (by simp), fun p hp => q p _ (Stp.new (S := S0) (Same.refl _) hp).same hp ?_⟩
      rw [upd_same, cntR, if_pos (by omega)]
    · walk_at "r"
      refine ifd (fun h5 => ?_) (fun h5 => ?_)
      · walk_at "r"
        refine ⟨sz (by simp), fun p hp => q p _ (Stp.new (S := S0) (Same.refl _) hp).same hp ?_⟩
        rw [upd_same, cntR, if_neg (by omega), if_pos (by simp at h5; omega)]
      · walk_at "r"
        have eb : ((n + j : Nat) : Int) + (j : Int) + 1 = ((n + j + j + 1 : Nat) : Int) := by omega
        rw [eb]
        refine s_slL hS fun p1 hp1 => ?_
        rw [cutV_nat, show n + j + j + 1 - (n + j) = j + 1 by omega]
        have s1 := Stp.new (S := S0) (o := .lst (((bs.map V.int).drop (n + j)).take (j + 1))) (Same.refl _) hp1
        refine ⟨rfl, p1, (bs.drop (n + j)).take (j + 1), rfl, SqL.of (by rw [upd_same, List.map_take, List.map_drop]), ?_⟩
        walk_at "r"
        refine ⟨sz (by simp), fun p hp => q p _ (s1.same.trans (Stp.new (S := S0) (Same.refl _) hp).same) (s1.same.free hp) ?_⟩
        rw [upd_same, cntR, if_neg (by omega), if_neg (by simp at h5; omega), ← e]
abbrev s_read_count : Stmt := topS 15
theorem sc_read_count : FnScope ["bits", "at"] ["bits", "at"] (defScope s_read_count) := ⟨rfl, rfl, rfl, by decide +kernel, rfl, by decide +kernel, by decide +kernel⟩
def Ok_read_count (P : Program) (w : World) (K : PySem.W.Frag) (mg : Str → Option Value) (base : Heap) : Prop := ∃ fA fd, Fn P w K mg base (L2.CX P w) 4 "read_count" s_read_count fA fd ["bits", "at"] (sp_read_count K mg)
theorem okx_read_count (Z : Zs K mg) {fA : Addr} {fd : FuncData} (F : Fun K "read_count" "read_count" s_read_count fA fd) (m : mg "read_count" = some (.ref fA)) (C_count_at : Ok_count_at P w K mg base) (C_check_place : Ok_check_place P w K mg base) : Fn P w K mg base (L2.CX P w) 4 "read_count" s_read_count fA fd ["bits", "at"] (sp_read_count K mg) := by
  obtain ⟨_, _, C_count_at⟩ := C_count_at
  obtain ⟨_, _, C_check_place⟩ := C_check_place
  refine ⟨F.okX sc_read_count (fun vs H Q E h => h.1) (fun cdv A outer s H vs Q E hr h => ?_), m, F.kp, F.binds fun _ _ _ _ _ _ us hl => match us, hl with | [_, _], _ => rfl, F⟩
  have hu64 := hr.units
  obtain ⟨hlen, h⟩ := h
  refine ⟨_, (pss_cons (ps_expr (pe_call C_check_place.G (hr.mono (by decide)) rfl C_check_place.m C_check_place.kp C_check_place.b .nil passL (pa_cons (pv 0) (pa_cons (pv 1) pa_nil))))
    (pss_one (ps_ret (pe_call C_count_at.G (hr.mono (by decide)) rfl C_count_at.m C_count_at.kp C_count_at.b .nil passL (pa_cons (pv 0) (pa_cons (pv 1) pa_nil)))))), ?_⟩
  obtain ⟨a, bs, n, rfl, hS, hn, hlen, hb, q⟩ := h
  walk_at "r"
  refine ⟨rfl, a, bs, n, rfl, hS, hn, hb, ?_⟩
  walk_at "r"
  exact ⟨rfl, a, bs, n, rfl, hS, hn, hlen, q⟩
abbrev s_law_pool : Stmt := topS 17
theorem sc_law_pool : FnScope ["_law_script", "_law_k", "_law_cell", "_law_big", "_law_mixed"] ["_law_script", "_law_k"] (defScope s_law_pool) := ⟨rfl, rfl, rfl, by decide +kernel, rfl, by decide +kernel, by decide +kernel⟩
def Ok_law_pool (P : Program) (w : World) (K : PySem.W.Frag) (mg : Str → Option Value) (base : Heap) : Prop := ∃ fA fd, Fn P w K mg base (L2.CX P w) 1 "_law_pool" s_law_pool fA fd ["_law_script", "_law_k"] (sp_law_pool K mg)
theorem okx_law_pool (Z : Zs K mg) {fA : Addr} {fd : FuncData} (F : Fun K "_law_pool" "_law_pool" s_law_pool fA fd) (m : mg "_law_pool" = some (.ref fA))  : Fn P w K mg base (L2.CX P w) 1 "_law_pool" s_law_pool fA fd ["_law_script", "_law_k"] (sp_law_pool K mg) := by
  refine ⟨F.okX sc_law_pool (fun vs H Q E h => h.1) (fun cdv A outer s H vs Q E hr h => ?_), m, F.kp, F.binds fun _ _ _ _ _ _ us hl => match us, hl with | [_, _], _ => rfl, F⟩
  have hu64 := hr.units
  obtain ⟨hlen, h⟩ := h
  refine ⟨_, (pss_cons (ps_set (i := 2) sc_law_pool.nd rfl (Or.inl rfl) pe_int)
    (pss_cons (ps_if (pt_cmpR op_lt (pv 1) (pe_callB (c_len K rfl) (by rfl) Z.z_len (by decide +kernel) (pa_cons (pv 0) pa_nil)) (nomark _))
      (pss_one (ps_set (i := 2) sc_law_pool.nd rfl (Or.inl rfl) (pe_ix (i_list K rfl) (pv 0) (pv 1) (fun _ _ => rfl))))
      pss_nil)
    (pss_cons (ps_set (i := 3) sc_law_pool.nd rfl (Or.inl rfl) (pe_callB (c_max2 rfl) (by rfl) Z.z_max (by decide +kernel) (pa_cons (pe_callTy c_int1 (by rfl) Z.z_int (by decide +kernel) (pa_cons (pv 2) pa_nil)) (pa_cons (pe_callTy c_int1 (by rfl) Z.z_int (by decide +kernel) (pa_cons (pe_op op_sub (pe_un un_neg pe_int) (pv 2)) pa_nil)) pa_nil))))
    (pss_cons (ps_set (i := 4) sc_law_pool.nd rfl (Or.inl rfl) (pe_op op_mod (pe_callTy c_int1 (by rfl) Z.z_int (by decide +kernel) (pa_cons (pe_op op_mul (pe_op op_add (pe_op op_add (pe_op op_add (pe_op op_mod (pe_callTy c_int1 (by rfl) Z.z_int (by decide +kernel) (pa_cons (pv 3) pa_nil)) pe_int) (pe_op op_mul (pe_op op_mul pe_int (pv 1)) (pv 1))) (pe_op op_mul pe_int (pv 1))) pe_int) pe_int) pa_nil)) pe_int))
    (pss_one (ps_ret (pe_lst (pa_cons (pe_op op_mul (pv 3) (pe_callTy c_int1 (by rfl) Z.z_int (by decide +kernel) (pa_cons (pe_cmpR op_ge (pv 3) (pe_op op_pow pe_int pe_int) (nomark _)) pa_nil))) (pa_cons (pv 4) pa_nil))))))))), ?_⟩
  obtain ⟨s, ns, k, rfl, hS, hk0, hk, q⟩ := h
  have fin : ∀ (x y : Int), 0 ≤ y → y < 2147483647 → (∀ p, H p = none → Q (.ref p) (upd H p (.lst [.int x, .int y]))) := fun x y y0 y1 p hp =>
    q p _ ⟨(Stp.new (S := S0) (Same.refl H) hp).same, hp, x, y, upd_same, y0, y1⟩
  walk_at "r"
  refine ifd (fun h => ?_) (fun h => ?_)
  · walk_at "r"
    have hl : k.toNat < ns.length := by simp at h; omega
    refine s_ixL hS (at_of (j := k.toNat) (by omega) (get_int hl)) ?_
    walk_at "r"
    exact ⟨sz (by simp), fin _ _ (Int.emod_nonneg _ (by decide)) (Int.emod_lt_of_pos _ (by decide))⟩
  · walk_at "r"
    exact ⟨sz (by simp), fin _ _ (Int.emod_nonneg _ (by decide)) (Int.emod_lt_of_pos _ (by decide))⟩
abbrev s_law_take : Stmt := topS 18
theorem sc_law_take : FnScope ["_law_source", "_law_most", "_law_drawn"] ["_law_source", "_law_most"] (defScope s_law_take) := ⟨rfl, rfl, rfl, by decide +kernel, rfl, by decide +kernel, by decide +kernel⟩
def Ok_law_take (P : Program) (w : World) (K : PySem.W.Frag) (mg : Str → Option Value) (base : Heap) : Prop := ∃ fA fd, Fn P w K mg base (L2.CX P w) 1 "_law_take" s_law_take fA fd ["_law_source", "_law_most"] (sp_law_take K mg)
theorem okx_law_take (Z : Zs K mg) {fA : Addr} {fd : FuncData} (F : Fun K "_law_take" "_law_take" s_law_take fA fd) (m : mg "_law_take" = some (.ref fA))  : Fn P w K mg base (L2.CX P w) 1 "_law_take" s_law_take fA fd ["_law_source", "_law_most"] (sp_law_take K mg) := by
  refine ⟨F.okX sc_law_take (fun vs H Q E h => h.1) (fun cdv A outer s H vs Q E hr h => ?_), m, F.kp, F.binds fun _ _ _ _ _ _ us hl => match us, hl with | [_, _], _ => rfl, F⟩
  have hu64 := hr.units
  obtain ⟨hlen, h⟩ := h
  refine ⟨_, (pss_cons (ps_if (pt_cmpR op_gt (pe_ix (i_list K rfl) (pv 0) pe_int (fun _ _ => rfl)) pe_int (nomark _))
      (pss_cons (ps_set (i := 2) sc_law_take.nd rfl (Or.inl rfl) (pe_op op_mod (pe_callTy c_int1 (by rfl) Z.z_int (by decide +kernel) (pa_cons (pe_ix (i_list K rfl) (pv 0) pe_int (fun _ _ => rfl)) pa_nil)) (pv 1)))
    (pss_cons (ps_asg (pe_op op_fdiv (pe_ix (i_list K rfl) (pv 0) pe_int (fun _ _ => rfl)) (pv 1)) (pg_sub (pv 0) pe_int set_list))
    (pss_one (ps_ret (pv 2)))))
      pss_nil)
    (pss_cons (ps_asg (pe_op op_mod (pe_callTy c_int1 (by rfl) Z.z_int (by decide +kernel) (pa_cons (pe_op op_add (pe_op op_mul (pe_ix (i_list K rfl) (pv 0) pe_int (fun _ _ => rfl)) pe_int) pe_int) pa_nil)) pe_int) (pg_sub (pv 0) pe_int set_list))
    (pss_one (ps_ret (pe_op op_mod (pe_callTy c_int1 (by rfl) Z.z_int (by decide +kernel) (pa_cons (pe_op op_fdiv (pe_op op_mod (pe_callTy c_int1 (by rfl) Z.z_int (by decide +kernel) (pa_cons (pe_op op_mul (pe_ix (i_list K rfl) (pv 0) pe_int (fun _ _ => rfl)) (pe_ix (i_list K rfl) (pv 0) pe_int (fun _ _ => rfl))) pa_nil)) pe_int) pe_int) pa_nil)) (pv 1)))))), ?_⟩
  obtain ⟨F0, p, t, rfl, hs, ht, ht2, q⟩ := h
  obtain ⟨hs0, hp0, a, b, hp, hb0, hb1⟩ := id hs
  have st : ∀ o, Stp (S1 p) F0 H F0 (upd H p o) := fun o => Stp.wr hs0 rfl hp0
  walk_at "r"
  refine ifd (fun h => ?_) (fun h => ?_)
  · walk_at "r"
    exact q _ _ (hs.wr hb0 hb1) (st _) (Int.emod_nonneg _ (by omega)) (Int.emod_lt_of_pos _ ht)
  · walk_at "r"
    exact q _ _ (hs.wr (Int.emod_nonneg _ (by decide)) (Int.emod_lt_of_pos _ (by decide))) (st _) (Int.emod_nonneg _ (by omega)) (Int.emod_lt_of_pos _ ht)
abbrev s_law_bits : Stmt := topS 19
theorem sc_law_bits : FnScope ["_law_source", "_law_most", "_law_turn"] ["_law_source", "_law_most"] (defScope s_law_bits) := ⟨rfl, rfl, rfl, by decide +kernel, rfl, by decide +kernel, by decide +kernel⟩
def Ok_law_bits (P : Program) (w : World) (K : PySem.W.Frag) (mg : Str → Option Value) (base : Heap) : Prop := ∃ fA fd, Fn P w K mg base (L2.CX P w) 2 "_law_bits" s_law_bits fA fd ["_law_source", "_law_most"] (sp_law_bits K mg)
theorem okx_law_bits (Z : Zs K mg) {fA : Addr} {fd : FuncData} (F : Fun K "_law_bits" "_law_bits" s_law_bits fA fd) (m : mg "_law_bits" = some (.ref fA)) (C_law_take : Ok_law_take P w K mg base) : Fn P w K mg base (L2.CX P w) 2 "_law_bits" s_law_bits fA fd ["_law_source", "_law_most"] (sp_law_bits K mg) := by
  obtain ⟨_, _, C_law_take⟩ := C_law_take
  refine ⟨F.okX sc_law_bits (fun vs H Q E h => h.1) (fun cdv A outer s H vs Q E hr h => ?_), m, F.kp, F.binds fun _ _ _ _ _ _ us hl => match us, hl with | [_, _], _ => rfl, F⟩
  have hu64 := hr.units
  obtain ⟨hlen, h⟩ := h
  refine ⟨_, (pss_one (ps_ret (pe_lc (own := [("_law_turn", 2)]) (g := gName 2) (tt := tYes) (by rfl) sc_law_bits.nd (pi_range1 rfl Z.z_range (pa_cons (pe_call C_law_take.G (hr.mono (by decide)) rfl C_law_take.m C_law_take.kp C_law_take.b .nil passL (pa_cons (pv 0) (pa_cons (pe_op op_add (pv 1) pe_int) pa_nil))) pa_nil)) (blkOk_by (own := [("_law_turn", 2)]) (N := ["_law_source", "_law_most", "_law_turn"]) (sc := defScope s_law_bits) (by decide +kernel)) (fun _ _ _ _ _ => (pg_name (i := 2) sc_law_bits.nd rfl (Or.inl rfl))) (fun _ _ _ _ _ => pts_nil) (fun _ _ _ _ _ => (pe_call C_law_take.G (hr.mono (by decide)) rfl C_law_take.m C_law_take.kp C_law_take.b .nil passL (pa_cons (pv 0) (pa_cons pe_int pa_nil))))))), ?_⟩
  obtain ⟨F0, p, m', rfl, hs, m0, m1, q⟩ := h
  walk_at "r"
  refine ⟨rfl, F0, p, _, rfl, hs, by omega, by omega, fun r1 H1 s1 t1 r10 r11 => ?_⟩
  walk_at "r"
  refine ⟨_, rfl, by omega, by omega, ?_⟩
  refine lcW walk_range (S1 p) s1.1 (fun b e => e ▸ s1.dom) (fun _ _ _ => trivial) (fun i acc F H => Src F H p ∧ ∃ bs : List Int, acc = bs.map V.int ∧ bs.length = i ∧ Bits bs)
    (fun _ _ _ _ _ _ n f _ r => ⟨r.1.upd n f, r.2⟩) ⟨s1, [], rfl, rfl, fun _ h => absurd h (by simp)⟩ ?_ ?_
  · rintro j x acc d F3 H3 H4 hj ⟨rfl, rfl⟩ hd nS st f0 e hl ⟨rs, bs, rl, rn, rb⟩
    walk_at "r"
    refine ⟨rfl, F3, p, _, rfl, rs, by decide, by decide, fun r H5 s5 t5 r50 r51 => lc_end hd nS st f0 e hl (by omega) t5 ⟨s5.upd nS f0, bs ++ [r], ?_, by simp [rn], ?_⟩⟩
    · rw [rl]; simp
    · intro x hx
      rcases List.mem_append.mp hx with hx | hx
      · exact rb x hx
      · simp at hx; unfold isBit; omega
  intro d acc F3 F4 H3 st hd f0 ef st1 hl ⟨rs, bs, rl, rn, rb⟩
  subst ef
  exact q d bs _ H3 (rs.frz (s1.ne hd) st1.fh) (t1.trans st1) (by rw [upd_same, rl]) rb (by omega)
abbrev s_law_digits : Stmt := topS 20
theorem sc_law_digits : FnScope ["_law_number", "_law_rest", "_law_found"] ["_law_number"] (defScope s_law_digits) := ⟨rfl, rfl, rfl, by decide +kernel, rfl, by decide +kernel, by decide +kernel⟩
def Ok_law_digits (P : Program) (w : World) (K : PySem.W.Frag) (mg : Str → Option Value) (base : Heap) : Prop := ∃ fA fd, Fn P w K mg base (L2.CX P w) 1 "_law_digits" s_law_digits fA fd ["_law_number"] (sp_law_digits K mg)
theorem okx_law_digits (Z : Zs K mg) {fA : Addr} {fd : FuncData} (F : Fun K "_law_digits" "_law_digits" s_law_digits fA fd) (m : mg "_law_digits" = some (.ref fA))  : Fn P w K mg base (L2.CX P w) 1 "_law_digits" s_law_digits fA fd ["_law_number"] (sp_law_digits K mg) := by
  refine ⟨F.okX sc_law_digits (fun vs H Q E h => h.1) (fun cdv A outer s H vs Q E hr h => ?_), m, F.kp, F.binds fun _ _ _ _ _ _ us hl => match us, hl with | [_], _ => rfl, F⟩
  have hu64 := hr.units
  obtain ⟨hlen, h⟩ := h
  refine ⟨_, (pss_cons (ps_par (i := 1) (j := 2) (by rfl) sc_law_digits.nd rfl rfl (by decide) rfl rfl (pa_cons (pv 0) (pa_cons (pe_lst pa_nil) pa_nil)) (by rfl))
    (pss_cons (ps_while (passes_of rfl) (pt_cmpR op_gt (pv 1) pe_int (nomark _))
      (pss_cons (ps_set (i := 2) sc_law_digits.nd rfl (Or.inl rfl) (pe_op op_cat (pe_lst (pa_cons (pe_op op_mod (pv 1) pe_int) pa_nil)) (pv 2)))
    (pss_one (ps_set (i := 1) sc_law_digits.nd rfl (Or.inl rfl) (pe_op op_fdiv (pv 1) pe_int)))))
    (pss_one (ps_ret (pv 2))))), ?_⟩
  obtain ⟨n, rfl, hn, q⟩ := h
  walk_at "r"
  refine ⟨sz (by simp), fun a0 ha0 => ?_⟩
  walk_at "r"
  refine whileM (mon_test (mon_op mon_I0 mon_var mon_c))
    (fun σ H' => ∃ (j : Nat) (a : Addr), σ = [some (.int n), some (.int ((n / 2 ^ j : Nat) : Int)), some (.ref a)] ∧ Same H H' ∧ H a = none ∧ H' a = some (.lst ((fixL j n).map V.int)) ∧ j ≤ blen n) (fun σ _ => match σ with
      | [_, some (.int p), _] => p.toNat
      | _ => 0) ⟨0, a0, by simp; rfl, (Stp.new (S := S0) (Same.refl H) ha0).same, ha0, upd_same, Nat.zero_le _⟩ ?_
  rintro σ H1 ⟨j, a, rfl, e1, a0', ha, hj⟩
  have hb : blen n ≤ 1000 := blen_le hn
  walk_at "r"
  refine ifd (fun h => ?_) (fun h => ?_)
  · have h' : 0 < n / 2 ^ j := Int.ofNat_lt.mp h
    have hlt : j < blen n := by
      rw [lt_blen]
      exact (Nat.div_pos_iff.mp h').2
    walk_at "r"
    refine ⟨sz (by simp), fun b hb0 => ?_⟩
    have s2 := Stp.new (S := S0) (o := .lst [.int (((n / 2 ^ j : Nat) : Int) % 2)]) (Same.refl H1) hb0
    walk_at "r"
    refine ⟨_, _, _, _, rfl, rfl, upd_same, s2.same _ _ ha, sz (by simp [fixL_len]; omega), fun c hc => ?_⟩
    have s3 := Stp.new (S := S0) (o := .lst ([.int (((n / 2 ^ j : Nat) : Int) % 2)] ++ (fixL j n).map V.int)) s2.fh hc
    walk_at "r"
    refine ⟨⟨j + 1, c, ?_, e1.trans (s2.trans s3).same, (e1.trans s2.same).free hc, ?_, by omega⟩, ?_⟩
    · rw [show ((n / 2 ^ (j + 1) : Nat) : Int) = ((n / 2 ^ j : Nat) : Int) / 2 by rw [Nat.pow_succ, ← Nat.div_div_eq_div_mul]; simp]
      rfl
    · rw [upd_same, fixL_cons]; simp
    · show (((n / 2 ^ j : Nat) : Int) / 2).toNat < ((n / 2 ^ j : Nat) : Int).toNat
      generalize n / 2 ^ j = y at h'
      omega
  · have h' : n / 2 ^ j = 0 := Nat.eq_zero_of_not_pos fun z => h (Int.ofNat_lt.mpr z)
    have e : j = blen n := by
      refine Nat.le_antisymm hj (Nat.le_of_not_lt fun z => ?_)
      rw [lt_blen] at z
      have := Nat.div_pos z (Nat.two_pow_pos j)
      omega
    subst e
    walk_at "r"
    exact q a H1 e1 a0' ha
abbrev s_law_code : Stmt := topS 23
theorem sc_law_code : FnScope ["_law_count_here", "_law_digits_here"] ["_law_count_here"] (defScope s_law_code) := ⟨rfl, rfl, rfl, by decide +kernel, rfl, by decide +kernel, by decide +kernel⟩
def Ok_law_code (P : Program) (w : World) (K : PySem.W.Frag) (mg : Str → Option Value) (base : Heap) : Prop := ∃ fA fd, Fn P w K mg base (L2.CX P w) 2 "_law_code" s_law_code fA fd ["_law_count_here"] (sp_law_code K mg)
theorem okx_law_code (Z : Zs K mg) {fA : Addr} {fd : FuncData} (F : Fun K "_law_code" "_law_code" s_law_code fA fd) (m : mg "_law_code" = some (.ref fA)) (C_law_digits : Ok_law_digits P w K mg base) : Fn P w K mg base (L2.CX P w) 2 "_law_code" s_law_code fA fd ["_law_count_here"] (sp_law_code K mg) := by
  obtain ⟨_, _, C_law_digits⟩ := C_law_digits
  refine ⟨F.okX sc_law_code (fun vs H Q E h => h.1) (fun cdv A outer s H vs Q E hr h => ?_), m, F.kp, F.binds fun _ _ _ _ _ _ us hl => match us, hl with | [_], _ => rfl, F⟩
  have hu64 := hr.units
  obtain ⟨hlen, h⟩ := h
  refine ⟨_, (pss_cons (ps_set (i := 1) sc_law_code.nd rfl (Or.inl rfl) (pe_call C_law_digits.G (hr.mono (by decide)) rfl C_law_digits.m C_law_digits.kp C_law_digits.b .nil passL (pa_cons (pe_op op_add (pv 0) pe_int) pa_nil)))
    (pss_one (ps_ret (pe_op op_cat (pe_op op_rep (pe_lst (pa_cons pe_int pa_nil)) (pe_op op_sub (pe_callB (c_len K rfl) (by rfl) Z.z_len (by decide +kernel) (pa_cons (pv 1) pa_nil)) pe_int)) (pv 1))))), ?_⟩
  obtain ⟨n, rfl, hn, q⟩ := h
  walk_at "r"
  have b3 : blen (n + 1) ≤ 41 := blen_le (by omega)
  have b1 := blen_pos (n := n + 1) (by omega)
  refine ⟨rfl, n + 1, rfl, Nat.lt_of_le_of_lt (show n + 1 ≤ 2 ^ 41 by omega) (Nat.pow_lt_pow_right (by decide) (by decide)), fun p H1 e1 p0 hp => ?_⟩
  walk_at "r"
  refine ⟨sz (by simp), fun a ha => ?_⟩
  have s2 := Stp.new (S := S0) (o := .lst [.int 0]) (Same.refl H1) ha
  walk_at "r"
  refine s_len (SqL.of (s2.same _ _ hp)) ?_
  walk_at "r"
  rw [List.length_map, fixL_len]
  refine s_rep upd_same (by omega) (by omega) fun b hb => ?_
  have s3 := Stp.new (S := S0) (o := .lst (List.replicate ((blen (n + 1) : Int) - 1).toNat (V.int 0))) s2.fh hb
  walk_at "r"
  refine ⟨_, _, _, _, rfl, rfl, upd_same, (s2.trans s3).same _ _ hp, sz (by simp [fixL_len]; omega), fun c hc => ?_⟩
  refine q c _ ((e1.trans (s2.trans s3).same).trans (Stp.new (S := S0) (Same.refl _) hc).same) ((e1.trans (s2.trans s3).same).free hc) ?_
  rw [upd_same]
  unfold countL
  rw [List.map_append, List.map_replicate, show ((blen (n + 1) : Int) - 1).toNat = blen (n + 1) - 1 by omega]
abbrev s_law_are_bits : Stmt := topS 21
theorem sc_law_are_bits : FnScope ["_law_told", "_law_one"] ["_law_told"] (defScope s_law_are_bits) := ⟨rfl, rfl, rfl, by decide +kernel, rfl, by decide +kernel, by decide +kernel⟩
def Ok_law_are_bits (P : Program) (w : World) (K : PySem.W.Frag) (mg : Str → Option Value) (base : Heap) : Prop := ∃ fA fd, Fn P w K mg base (L2.CX P w) 1 "_law_are_bits" s_law_are_bits fA fd ["_law_told"] (sp_law_are_bits K mg)
theorem okx_law_are_bits (Z : Zs K mg) {fA : Addr} {fd : FuncData} (F : Fun K "_law_are_bits" "_law_are_bits" s_law_are_bits fA fd) (m : mg "_law_are_bits" = some (.ref fA))  : Fn P w K mg base (L2.CX P w) 1 "_law_are_bits" s_law_are_bits fA fd ["_law_told"] (sp_law_are_bits K mg) := by
  refine ⟨F.okX sc_law_are_bits (fun vs H Q E h => h.1) (fun cdv A outer s H vs Q E hr h => ?_), m, F.kp, F.binds fun _ _ _ _ _ _ us hl => match us, hl with | [_], _ => rfl, F⟩
  have hu64 := hr.units
  obtain ⟨hlen, h⟩ := h
  refine ⟨_, (pss_one (ps_ret (pe_and (pe_callB (c_isi K rfl) (by rfl) Z.z_isinstance (by decide +kernel) (pa_cons (pv 0) (pa_cons (pe_bltn (v := .ty "list") (by rfl) Z.z_list (by decide +kernel) rfl) pa_nil))) (pe_one (pe_cmpR (o_eqD K rfl hu64) (pe_lc (own := [("_law_one", 1)]) (g := gName 1) (tt := _) (by rfl) sc_law_are_bits.nd (pi_list (pv 0)) (blkOk_by (own := [("_law_one", 1)]) (N := ["_law_told", "_law_one"]) (sc := defScope s_law_are_bits) (by decide +kernel)) (fun _ _ _ _ _ => (pg_name (i := 1) sc_law_are_bits.nd rfl (Or.inl rfl))) (fun _ _ _ _ _ => pts_one (PW.pt (pw_or (pt_val (pe_callB (c_isi K rfl) (by rfl) Z.z_isinstance (by decide +kernel) (pa_cons (pv 1) (pa_cons (pe_bltn (v := .ty "bool") (by rfl) Z.z_bool (by decide +kernel) rfl) pa_nil)))) (pw_or1 (pt_cmpR (o_notIn K rfl) (pv 1) (pe_tup (pa_cons pe_int (pa_cons pe_int pa_nil))) rfl))))) (fun _ _ _ _ _ => (pv 1))) (pe_lst pa_nil) (nomark _)))))), ?_⟩
  obtain ⟨a, bs, rfl, ha, hb, q⟩ := h
  walk_at "r"
  refine s_isi (b := true) (.base (.lst ha)) (by decide +kernel) ?_
  walk_at "r"
  refine ⟨_, rfl, ⟨_, SqL.of ha⟩, ?_⟩
  refine lcW (walk_list (xs := bs.map V.int)) S0 (Same.refl H) (fun _ z => z.elim) (fun F1 H1 st => st.same.seq (SqL.of ha)) (fun i acc F1 H1 => acc = []) (fun _ _ _ _ _ _ _ _ _ r => r) rfl ?_ ?_
  · rintro j x acc d F1 H1 H2 hj ⟨rfl, hx⟩ hd nS st f0 e hl rr
    rw [List.getElem?_map] at hx
    cases z : bs[j]? with
    | none => rw [z] at hx; cases hx
    | some b =>
      rw [z] at hx
      cases hx
      have hbb := hb b (List.mem_of_getElem? z)
      walk_at "r"
      refine s_isi (b := false) (.base (.int b)) (by decide +kernel) ?_
      walk_at "r"
      refine ⟨sz (by simp), fun t ht => ?_⟩
      have s2 := Stp.new (S := S0) (o := .tup [.int 0, .int 1]) st.fh ht
      refine ⟨t, [.int 0, .int 1], rfl, .inr (SqT.of upd_same), rfl, rfl, ?_⟩
      have eb : inV (.int b) [.int 0, .int 1] = true := by rcases hbb with rfl | rfl <;> decide
      rw [eb]
      walk_at "r"
      exact lc_skip hd nS st f0 e hl s2 rr
  · intro d acc F0 F1 H1 st hd f0 ef st1 hl rr
    subst rr
    have hd1 : H1 d = some (.lst []) := by rw [ef] at st1; exact st1.fh _ _ upd_same
    walk_at "r"
    refine ⟨sz (by simp), fun c hc => ?_⟩
    have s2 := Stp.new (S := S0) (o := .lst []) (Same.refl H1) hc
    refine s_eqL (ns := []) (ms := []) (SqL.of (s2.same _ _ hd1)) (SqL.of upd_same) ?_
    exact q _ (st.same.trans s2.same)
abbrev s_law_count : Stmt := topS 22
theorem sc_law_count : FnScope ["_law_source", "_law_way", "_law_great"] ["_law_source"] (defScope s_law_count) := ⟨rfl, rfl, rfl, by decide +kernel, rfl, by decide +kernel, by decide +kernel⟩
def Ok_law_count (P : Program) (w : World) (K : PySem.W.Frag) (mg : Str → Option Value) (base : Heap) : Prop := ∃ fA fd, Fn P w K mg base (L2.CX P w) 2 "_law_count" s_law_count fA fd ["_law_source"] (sp_law_count K mg)
theorem okx_law_count (Z : Zs K mg) {fA : Addr} {fd : FuncData} (F : Fun K "_law_count" "_law_count" s_law_count fA fd) (m : mg "_law_count" = some (.ref fA)) (C_law_take : Ok_law_take P w K mg base) : Fn P w K mg base (L2.CX P w) 2 "_law_count" s_law_count fA fd ["_law_source"] (sp_law_count K mg) := by
  obtain ⟨_, _, C_law_take⟩ := C_law_take
  refine ⟨F.okX sc_law_count (fun vs H Q E h => h.1) (fun cdv A outer s H vs Q E hr h => ?_), m, F.kp, F.binds fun _ _ _ _ _ _ us hl => match us, hl with | [_], _ => rfl, F⟩
  have hu64 := hr.units
  obtain ⟨hlen, h⟩ := h
  refine ⟨_, (pss_cons (ps_par (i := 1) (j := 2) (by rfl) sc_law_count.nd rfl rfl (by decide) rfl rfl (pa_cons (pe_call C_law_take.G (hr.mono (by decide)) rfl C_law_take.m C_law_take.kp C_law_take.b .nil passL (pa_cons (pv 0) (pa_cons pe_int pa_nil))) (pa_cons (pe_op op_sub (pe_op op_pow pe_int pe_int) pe_int) pa_nil)) (by rfl))
    (pss_cons (ps_if (pt_cmpR op_eq (pv 1) pe_int (nomark _))
      (pss_one (ps_ret (pe_call C_law_take.G (hr.mono (by decide)) rfl C_law_take.m C_law_take.kp C_law_take.b .nil passL (pa_cons (pv 0) (pa_cons pe_int pa_nil)))))
      pss_nil)
    (pss_cons (ps_if (pt_cmpR op_eq (pv 1) pe_int (nomark _))
      (pss_one (ps_ret (pe_callB (c_max2 rfl) (by rfl) Z.z_max (by decide +kernel) (pa_cons pe_int (pa_cons (pe_callB (c_min2 rfl) (by rfl) Z.z_min (by decide +kernel) (pa_cons (pv 2) (pa_cons (pe_op op_add (pe_op op_sub (pe_op op_shl pe_int (pe_call C_law_take.G (hr.mono (by decide)) rfl C_law_take.m C_law_take.kp C_law_take.b .nil passL (pa_cons (pv 0) (pa_cons pe_int pa_nil)))) pe_int) (pe_call C_law_take.G (hr.mono (by decide)) rfl C_law_take.m C_law_take.kp C_law_take.b .nil passL (pa_cons (pv 0) (pa_cons pe_int pa_nil)))) pa_nil))) pa_nil)))))
      pss_nil)
    (pss_cons (ps_if (pt_cmpR op_eq (pv 1) pe_int (nomark _))
      (pss_one (ps_ret (pe_op op_sub (pv 2) (pe_call C_law_take.G (hr.mono (by decide)) rfl C_law_take.m C_law_take.kp C_law_take.b .nil passL (pa_cons (pv 0) (pa_cons pe_int pa_nil))))))
      pss_nil)
    (pss_one (ps_ret (pe_callB (c_min2 rfl) (by rfl) Z.z_min (by decide +kernel) (pa_cons (pv 2) (pa_cons (pe_op op_add (pe_op op_mul (pe_call C_law_take.G (hr.mono (by decide)) rfl C_law_take.m C_law_take.kp C_law_take.b .nil passL (pa_cons (pv 0) (pa_cons (pe_op op_pow pe_int pe_int) pa_nil))) (pe_op op_pow pe_int pe_int)) (pe_call C_law_take.G (hr.mono (by decide)) rfl C_law_take.m C_law_take.kp C_law_take.b .nil passL (pa_cons (pv 0) (pa_cons (pe_op op_pow pe_int pe_int) pa_nil)))) pa_nil))))))))), ?_⟩
  obtain ⟨F0, p, rfl, hs, q⟩ := h
  have e1 : (2 : Int) ^ Int.toNat 21 = 2097152 := by decide
  have e2 : (2 : Int) ^ Int.toNat 20 = 1048576 := by decide
  have e3 : (2 : Int) ^ Int.toNat 41 = 2199023255552 := by decide
  walk_at "r"
  refine ⟨rfl, F0, p, _, rfl, hs, by decide, by decide, fun r1 H1 s1 t1 r10 r11 => ?_⟩
  walk_at "r"
  refine ifd (fun h => ?_) (fun h => ?_)
  · walk_at "r"
    refine ⟨rfl, F0, p, _, rfl, s1, by decide, by decide, fun r2 H2 s2 t2 r20 r21 => ?_⟩
    exact q _ _ s2 (t1.trans t2) r20 (by omega)
  walk_at "r"
  refine ifd (fun h => ?_) (fun h => ?_)
  · walk_at "r"
    refine ⟨rfl, F0, p, _, rfl, s1, by decide, by decide, fun r2 H2 s2 t2 r20 r21 => ?_⟩
    walk_at "r"
    refine ⟨rfl, F0, p, _, rfl, s2, by decide, by decide, fun r3 H3 s3 t3 r30 r31 => ?_⟩
    walk_at "r"
    rw [e3]
    have pw : (0 : Int) < 2 ^ r2.toNat := Int.pow_pos (by decide)
    refine q _ _ s3 ((t1.trans t2).trans t3) ?_ ?_
    · split <;> omega
    · split
      · split <;> omega
      · omega
  walk_at "r"
  refine ifd (fun h => ?_) (fun h => ?_)
  · walk_at "r"
    refine ⟨rfl, F0, p, _, rfl, s1, by decide, by decide, fun r2 H2 s2 t2 r20 r21 => ?_⟩
    walk_at "r"
    rw [e3]
    exact q _ _ s2 (t1.trans t2) (by omega) (by omega)
  walk_at "r"
  refine ⟨rfl, F0, p, _, rfl, s1, by decide, by decide, fun r2 H2 s2 t2 r20 r21 => ?_⟩
  walk_at "r"
  refine ⟨rfl, F0, p, _, rfl, s2, by decide, by decide, fun r3 H3 s3 t3 r30 r31 => ?_⟩
  walk_at "r"
  rw [e1] at r21
  rw [e2] at r31
  rw [e2, e3]
  refine q _ _ s3 ((t1.trans t2).trans t3) ?_ ?_
  · split <;> omega
  · split <;> omega
abbrev s_law_word : Stmt := topS 24
theorem sc_law_word : FnScope ["_law_call", "_law_told", "e"] ["_law_call"] (defScope s_law_word) := ⟨rfl, rfl, rfl, by decide +kernel, rfl, by decide +kernel, by decide +kernel⟩
theorem gv_law_word {X : Cx} (Z : Zs X.K X.mg) {g : Addr} {cdg : Value} (q : Str) : LamX.GivesTo X ["_law_call", "_law_told", "e"] "_law_word" (defScope s_law_word) g cdg (defBody s_law_word) "_law_call" q (tt_law_word X.K X.mg) := by
  intro f c' s H Q tl act hc h
  refine ⟨_, (pss_cons (ps_tryH rfl rfl sc_law_word.nd takes0 (fun W pn xe tk px => pss_ex (C := fun (Ech : XK) => ∀ cls d σ H, Ech cls d H → σ.length = 3 → W cls d σ H) fun Ech hW => (pss_one (ps_set (i := 1) sc_law_word.nd rfl (Or.inl rfl) (pe_tup (pa_cons pe_str (pa_cons (pe_weak (act (fun cls d σ H => σ.length = 3 → W cls d σ H) pn xe Ech _ _ (takes_len tk) hW)) pa_nil)))))) (.named (i := 2) rfl rfl ⟨rfl, by decide, .inl Z.x_Great.g⟩ (fun a oe cls d pn hz hf => (pss_one (ps_set (i := 1) sc_law_word.nd rfl (Or.inl rfl) (pe_tup (pa_cons pe_str (pa_cons (pe_callB (call_isX _ rfl hz hf) (by rfl) Z.z_isinstance (by decide +kernel) (pa_cons (pv 2) (pa_cons (pe_glob (v := .ref (exA X.mg "NarrowError")) rfl Z.x_NarrowError.g rfl) pa_nil))) (pa_cons (pe_callB (call_isX _ rfl hz hf) (by rfl) Z.z_isinstance (by decide +kernel) (pa_cons (pv 2) (pa_cons (pe_glob (v := .ref (exA X.mg "Outside")) rfl Z.x_Outside.g rfl) pa_nil))) pa_nil))))))) (.named (i := 2) rfl rfl ⟨rfl, by decide, .inl Z.x_Outside.g⟩ (fun a oe cls d pn hz hf => (pss_one (ps_set (i := 1) sc_law_word.nd rfl (Or.inl rfl) (pe_tup (pa_cons pe_str (pa_cons (pe_callB (call_isX _ rfl hz hf) (by rfl) Z.z_isinstance (by decide +kernel) (pa_cons (pv 2) (pa_cons (pe_glob (v := .ref (exA X.mg "NarrowError")) rfl Z.x_NarrowError.g rfl) pa_nil))) (pa_cons (pe_callB (call_isX _ rfl hz hf) (by rfl) Z.z_isinstance (by decide +kernel) (pa_cons (pv 2) (pa_cons (pe_glob (v := .ref (exA X.mg "Great")) rfl Z.x_Great.g rfl) pa_nil))) pa_nil))))))) .nil)))
    (pss_one (ps_ret (pv 1)))), ?_⟩
  refine s_seq ?_
  refine ⟨fun cls d H' => d = none ∧ ((cls = .ref (exA X.mg "Great") ∧ ∀ p H2, Same H' H2 → H2 p = some (.tup [.str "great", .bl true, .bl false]) → Q (.ref p) H2) ∨
      (cls = .ref (exA X.mg "Outside") ∧ ∀ p H2, Same H' H2 → H2 p = some (.tup [.str "outside", .bl true, .bl false]) → Q (.ref p) H2)), ?_, ?_⟩
  · rintro cls d σ H2 ⟨rfl, hh⟩ hl
    match σ, hl with
    | [x, y, z], _ =>
      rcases hh with ⟨rfl, k⟩ | ⟨rfl, k⟩
      · refine ⟨true, Z.x_Great.exm Z.s_Great_Great, fun _ b hb => ?_, fun q => nomatch q⟩
        walk_at "r"
        refine s_isX Z.x_Great.c Z.k_Great_NarrowError ?_
        walk_at "r"
        refine s_isX Z.x_Great.c Z.k_Great_Outside ?_
        walk_at "r"
        refine ⟨sz (by simp), fun p hp => ?_⟩
        walk_at "r"
        refine s_ret (s_var (v := .ref p) rfl ?_)
        exact k p _ (Stp.new (S := S0) (Same.refl _) hp).same upd_same
      · refine ⟨false, Z.x_Great.exm Z.s_Outside_Great, fun q => (nomatch q), fun _ => ⟨true, Z.x_Outside.exm Z.s_Outside_Outside, fun _ b hb => ?_, fun q => nomatch q⟩⟩
        walk_at "r"
        refine s_isX Z.x_Outside.c Z.k_Outside_NarrowError ?_
        walk_at "r"
        refine s_isX Z.x_Outside.c Z.k_Outside_Great ?_
        walk_at "r"
        refine ⟨sz (by simp), fun p hp => ?_⟩
        walk_at "r"
        refine s_ret (s_var (v := .ref p) rfl ?_)
        exact k p _ (Stp.new (S := S0) (Same.refl _) hp).same upd_same
  · walk_at "r"
    refine ⟨_, ⟨rfl, hc, h⟩, fun v H1 k => ?_⟩
    walk_at "r"
    refine ⟨sz (by simp), fun p hp => ?_⟩
    walk_at "r"
    exact k p _ (Stp.new (S := S0) (Same.refl _) hp).same upd_same
abbrev s_law_fixed_right : Stmt := topS 25
theorem sc_law_fixed_right : FnScope ["_law_source", "_law_digits_here", "_law_number", "_law_one", "_law_least", "_law_width", "_law_due"] ["_law_source"] (defScope s_law_fixed_right) := ⟨rfl, rfl, rfl, by decide +kernel, rfl, by decide +kernel, by decide +kernel⟩
def Ok_law_fixed_right (T : Tbs) (P : Program) (w : World) (K : PySem.W.Frag) (mg : Str → Option Value) (base : Heap) : Prop := ∃ fA fd, Fn P w K mg base (L2.CX P w) 4 "_law_fixed_right" s_law_fixed_right fA fd ["_law_source"] (sp_law_fixed_right T K mg)
theorem okx_law_fixed_right (Z : Zs K mg) {fA : Addr} {fd : FuncData} (F : Fun K "_law_fixed_right" "_law_fixed_right" s_law_fixed_right fA fd) (m : mg "_law_fixed_right" = some (.ref fA)) {T : Tbs} {c0 P0 : Addr} (TB : LamX.TabB base mg c0 P0) (hcode : fd.code = .ref c0) (hmT : (P0, qLam "_law_fixed_right") ∈ T) (hu : ∀ p ∈ T, p.1 = P0 → p.2 = qLam "_law_fixed_right") (C_fixed : Ok_fixed P w K mg base) (C_law_word : OkG K mg "_law_word" "_law_call" s_law_word ["_law_call", "_law_told", "e"]) (C_law_are_bits : Ok_law_are_bits P w K mg base) (C_law_digits : Ok_law_digits P w K mg base) (C_law_take : Ok_law_take P w K mg base) (C_law_bits : Ok_law_bits P w K mg base) : Fn P w K mg base (L2.CX P w) 4 "_law_fixed_right" s_law_fixed_right fA fd ["_law_source"] (sp_law_fixed_right T K mg) := by
  obtain ⟨_, _, C_fixed⟩ := C_fixed
  obtain ⟨_, _, C_law_word⟩ := C_law_word
  obtain ⟨_, _, C_law_are_bits⟩ := C_law_are_bits
  obtain ⟨_, _, C_law_digits⟩ := C_law_digits
  obtain ⟨_, _, C_law_take⟩ := C_law_take
  obtain ⟨_, _, C_law_bits⟩ := C_law_bits
  refine ⟨okXc F sc_law_fixed_right (fun vs H Q E h => h.1) (fun A outer s H vs Q E hr h => ?_), m, F.kp, F.binds fun _ _ _ _ _ _ us hl => match us, hl with | [_], _ => rfl, F⟩
  have hu64 := hr.units
  obtain ⟨hlen, h⟩ := h
  refine ⟨_, (pss_cons (ps_set (i := 1) sc_law_fixed_right.nd rfl (Or.inl rfl) (pe_call C_law_bits.G (hr.mono (by decide)) rfl C_law_bits.m C_law_bits.kp C_law_bits.b .nil passL (pa_cons (pv 0) (pa_cons pe_int pa_nil))))
    (pss_cons (ps_set (i := 2) sc_law_fixed_right.nd rfl (Or.inr rfl) pe_int)
    (pss_cons (ps_for (passes_of rfl) rfl (pi_list (pv 1)) (pg_name (i := 3) sc_law_fixed_right.nd rfl (Or.inl rfl))
      (pss_one (ps_set (i := 2) sc_law_fixed_right.nd rfl (Or.inr rfl) (pe_op op_add (pe_op op_mul pe_int (pv 2)) (pv 3)))))
    (pss_cons (ps_set (i := 4) sc_law_fixed_right.nd rfl (Or.inr rfl) (pe_callB (c_len K rfl) (by rfl) Z.z_len (by decide +kernel) (pa_cons (pe_call C_law_digits.G (hr.mono (by decide)) rfl C_law_digits.m C_law_digits.kp C_law_digits.b .nil passL (pa_cons (pv 2) pa_nil)) pa_nil)))
    (pss_cons (ps_set (i := 5) sc_law_fixed_right.nd rfl (Or.inr rfl) (pe_op op_sub (pe_op op_add (pv 4) (pe_call C_law_take.G (hr.mono (by decide)) rfl C_law_take.m C_law_take.kp C_law_take.b .nil passL (pa_cons (pv 0) (pa_cons pe_int pa_nil)))) pe_int))
    (pss_cons (ps_set (i := 6) sc_law_fixed_right.nd rfl (Or.inl rfl) (pe_tup (pa_cons pe_str (pa_cons pe_bl (pa_cons pe_bl pa_nil)))))
    (pss_cons (ps_if (pt_cmpR op_ge (pv 5) (pv 4) (nomark _))
      (pss_one (ps_set (i := 6) sc_law_fixed_right.nd rfl (Or.inl rfl) (pe_tup (pa_cons pe_str (pa_cons (pe_op op_cat (pe_op op_rep (pe_lst (pa_cons pe_int pa_nil)) (pe_op op_sub (pv 5) (pv 4))) (pe_call C_law_digits.G (hr.mono (by decide)) rfl C_law_digits.m C_law_digits.kp C_law_digits.b .nil passL (pa_cons (pv 2) pa_nil))) pa_nil)))))
      pss_nil)
    (pss_cons (ps_if (PW.pt (pw_or (pt_cmpR (o_neD K rfl hu64) (pe_lam (k := 1) C_law_word rfl rfl (Or.inl rfl) (gv_law_word Z _) TB hcode hmT hu (hr.mono (by decide)) (LamX.lamS_by (by rfl)) rfl (fun _ _ _ _ _ => rfl) (fun A outer s H E f c' hr => (pe_call C_fixed.G (hr.mono (by decide)) rfl C_fixed.m C_fixed.kp C_fixed.b .nil (passes_call (takes_of rfl rfl rfl rfl) (fun _ _ _ _ h => h)) (pa_cons (pv 2) (pa_cons (pv 5) pa_nil))))) (pv 6) (nomark _)) (pw_or1 (pt_not (pt_val (pe_call C_law_are_bits.G (hr.mono (by decide)) rfl C_law_are_bits.m C_law_are_bits.kp C_law_are_bits.b .nil passL (pa_cons (pe_callK0 C_fixed.G (hr.mono (by decide)) rfl C_fixed.m C_fixed.kp (C_fixed.F.kbinds 0 ["n", "w"] (by decide) (fun _ _ _ _ _ _ us ws hu hw => match us, ws, hu, hw with | [], [_, _], _, _ => rfl)) passL (pk_cons (pv 2) (pk_cons (pv 4) pk_nil))) pa_nil)))))))
      (pss_one (ps_ret pe_bl))
      pss_nil)
    (pss_cons (ps_if (pt_cmpR (o_neD K rfl hu64) (pe_lam (k := 1) C_law_word rfl rfl (Or.inl rfl) (gv_law_word Z _) TB hcode hmT hu (hr.mono (by decide)) (LamX.lamS_by (by rfl)) rfl (fun _ _ _ _ _ => rfl) (fun A outer s H E f c' hr => (pe_call C_fixed.G (hr.mono (by decide)) rfl C_fixed.m C_fixed.kp C_fixed.b .nil (passes_call (takes_of rfl rfl rfl rfl) (fun _ _ _ _ h => h)) (pa_cons (pe_op op_sub (pe_un un_neg pe_int) (pv 2)) (pa_cons (pe_op op_add (pv 4) pe_int) pa_nil))))) (pe_tup (pa_cons pe_str (pa_cons pe_bl (pa_cons pe_bl pa_nil)))) (nomark _))
      (pss_one (ps_ret pe_bl))
      pss_nil)
    (pss_one (ps_ret (pe_and (pe_cmpR (o_eqD K rfl hu64) (pe_lam (k := 1) C_law_word rfl rfl (Or.inl rfl) (gv_law_word Z _) TB hcode hmT hu (hr.mono (by decide)) (LamX.lamS_by (by rfl)) rfl (fun _ _ _ _ _ => rfl) (fun A outer s H E f c' hr => (pe_call C_fixed.G (hr.mono (by decide)) rfl C_fixed.m C_fixed.kp C_fixed.b .nil (passes_call (takes_of rfl rfl rfl rfl) (fun _ _ _ _ h => h)) (pa_cons pe_int (pa_cons (pe_op op_sub (pe_un un_neg pe_int) (pv 4)) pa_nil))))) (pe_tup (pa_cons pe_str (pa_cons pe_bl (pa_cons pe_bl pa_nil)))) (nomark _)) (pe_one (pe_cmpR (o_eqD K rfl hu64) (pe_call C_fixed.G (hr.mono (by decide)) rfl C_fixed.m C_fixed.kp C_fixed.b .nil passL (pa_cons pe_int (pa_cons pe_int pa_nil))) (pe_lst pa_nil) (nomark _))))))))))))))), ?_⟩
  obtain ⟨F, p, rfl, hs, nt, hT, q⟩ := h
  walk_at "r"
  refine ⟨rfl, F, p, _, rfl, hs, by decide, by decide, fun qa bs F1 H1 s1 t1 hA bA lA => ?_⟩
  have T1 := hs.tabs hT t1
  have s1 := s1.cut
  have hA := cutT_at hA (fun ps z => by cases z)
  have n1 := cutT_no F1
  have f1 : ∀ H', Src (cutT F1) H' p → Src F H' p := fun H' s => s.weak (fun b o e => cutT_at (t1.ff b o e) (fun ps z => nt b ps (by rw [e, z])))
  clear t1 hs
  generalize cutT F1 = G at *
  walk_at "r"
  refine ⟨_, rfl, ⟨_, s1.1.seq (SqL.of hA)⟩, ?_⟩
  refine forL (xs := bs.map V.int) (fun i σ H' => ∃ v, σ = [some (.ref p), some (.ref qa), some (.int (numL (bs.take i))), v, none, none, none] ∧ H1 = H') ⟨_, rfl, rfl⟩ (fun i σ H' _ ⟨_, _, e⟩ => e ▸ s1.1.seq (SqL.of hA)) ?_ ?_
  · rintro i x σ H' hx ⟨v, rfl, rfl⟩
    rw [List.getElem?_map] at hx
    cases z : bs[i]? with
    | none => rw [z] at hx; cases hx
    | some b =>
      rw [z] at hx
      cases hx
      have hi : i < bs.length := (List.getElem?_eq_some_iff.mp z).1
      have et : bs.take (i + 1) = bs.take i ++ [b] := by
        rw [List.take_succ_eq_append_getElem hi]
        rw [List.getElem?_eq_getElem hi] at z
        rw [Option.some.inj z]
      have hv : 2 * numL (bs.take i) + b = numL (bs.take (i + 1)) := by rw [et, numL_snoc]
      walk_at "r"
      rw [hv]
      exact ⟨_, rfl, rfl⟩
  · rintro σ H' ⟨v, rfl, rfl⟩
    rw [List.length_map, List.take_length]
    have hn := numL_lt bs bA bs.length (Nat.le_refl _)
    rw [List.take_length] at hn
    obtain ⟨n, en⟩ : ∃ n : Nat, numL bs = (n : Int) := ⟨(numL bs).toNat, by omega⟩
    rw [en]
    have hn2 : n < 2 ^ 70 := by
      have h1 : ((2 : Int) ^ bs.length) ≤ 2 ^ 70 := by exact_mod_cast Nat.pow_le_pow_right (n := 2) (by decide) (by omega)
      have : (n : Int) < 2 ^ 70 := by omega
      exact_mod_cast this
    have hb : blen n ≤ 70 := blen_le hn2
    have hbl := blen_lt n
    walk_at "r"
    refine ⟨rfl, n, rfl, Nat.lt_trans hn2 (Nat.pow_lt_pow_right (by decide) (by decide)), fun d H2 e2 d0 hd => ?_⟩
    walk_at "r"
    rw [List.length_map, fixL_len]
    walk_at "r"
    refine ⟨rfl, G, p, _, rfl, s1.of e2, by decide, by decide, fun r H3 s3 t3 r0 r1 => ?_⟩
    have T3 := (s1.of e2).tabs (T1.ext e2) t3
    walk_at "r"
    refine ⟨sz (by simp), fun o ho => ?_⟩
    have s4 := s3.new (o := .tup [.str "outside", .bl true, .bl false]) ho
    have e4 := (Stp.new (S := S0) (o := .tup [.str "outside", .bl true, .bl false]) s3.1 ho)
    have T4 := T3.ext e4.same
    have n4 : NoT (upd G o (.tup [.str "outside", .bl true, .bl false])) := n1.new fun ps z => by cases z
    have o4 : upd G o (.tup [.str "outside", .bl true, .bl false]) o = some (.tup [.str "outside", .bl true, .bl false]) := upd_same
    have f4 : ∀ H', Src (upd G o (.tup [.str "outside", .bl true, .bl false])) H' p → Src F H' p := fun H' s => f1 H' (s.weak e4.ff)
    clear e4 f1 n1 s3 T3 t3 hA ho s1 T1
    generalize upd G o (.tup [.str "outside", .bl true, .bl false]) = G4 at s4 n4 o4 f4
    generalize upd H3 o (.tup [.str "outside", .bl true, .bl false]) = H4 at s4 T4 ⊢
    walk_at "r"
    refine ifd (fun h => ?_) (fun h => ?_)
    · walk_at "r"
      refine ⟨sz (by simp), fun a ha => ?_⟩
      have e5 : Same H4 (upd H4 a (.lst [.int 0])) := (Stp.new (S := S0) (Same.refl _) ha).same
      have h5 : upd H4 a (.lst [.int 0]) a = some (.lst [.int 0]) := upd_same
      generalize upd H4 a (.lst [.int 0]) = H5 at e5 h5 ⊢
      walk_at "r"
      refine s_rep h5 (by omega) (by omega) fun b hb6 => ?_
      have ek : ((blen n : Int) + r - 2 - (blen n : Int)).toNat = r.toNat - 2 := by omega
      rw [ek]
      have e6 : Same H5 (upd H5 b (.lst (List.replicate (r.toNat - 2) (V.int 0)))) := (Stp.new (S := S0) (Same.refl _) hb6).same
      have h6 : upd H5 b (.lst (List.replicate (r.toNat - 2) (V.int 0))) b = some (.lst (List.replicate (r.toNat - 2) (V.int 0))) := upd_same
      generalize upd H5 b (.lst (List.replicate (r.toNat - 2) (V.int 0))) = H6 at e6 h6 ⊢
      walk_at "r"
      refine ⟨rfl, n, rfl, Nat.lt_trans hn2 (Nat.pow_lt_pow_right (by decide) (by decide)), fun d2 H7 e7 _ hd2 => ?_⟩
      walk_at "r"
      refine ⟨_, _, _, _, rfl, rfl, e7 _ _ h6, hd2, sz (by simp [fixL_len]; omega), fun c hc8 => ?_⟩
      have s7 := s4.of (e5.trans (e6.trans e7))
      have ec : List.replicate (r.toNat - 2) (V.int 0) ++ (fixL (blen n) n).map V.int = (fixL (r.toNat - 2 + blen n) n).map V.int := by rw [fixL_pad _ _ hbl, List.map_append, List.map_replicate]
      rw [ec]
      have s8 := s7.new (o := .lst ((fixL (r.toNat - 2 + blen n) n).map V.int)) hc8
      have g8 := (Stp.new (S := S0) (o := .lst ((fixL (r.toNat - 2 + blen n) n).map V.int)) s7.1 hc8)
      have T8 := (T4.ext (e5.trans (e6.trans e7))).ext g8.same
      have n8 : NoT (upd G4 c (.lst ((fixL (r.toNat - 2 + blen n) n).map V.int))) := n4.new fun ps z => by cases z
      have o8 : upd G4 c (.lst ((fixL (r.toNat - 2 + blen n) n).map V.int)) c = some (.lst ((fixL (r.toNat - 2 + blen n) n).map V.int)) := upd_same
      have f8 : ∀ H', Src (upd G4 c (.lst ((fixL (r.toNat - 2 + blen n) n).map V.int))) H' p → Src F H' p := fun H' s => f4 H' (s.weak g8.ff)
      clear g8
      generalize upd G4 c (.lst ((fixL (r.toNat - 2 + blen n) n).map V.int)) = G8 at s8 n8 o8 f8
      generalize upd H7 c (.lst ((fixL (r.toNat - 2 + blen n) n).map V.int)) = H8 at s8 T8 ⊢
      walk_at "r"
      refine ⟨sz (by simp), fun u hu => ?_⟩
      have s9 := s8.new (o := .tup [.str "told", .ref c]) hu
      have g9 := (Stp.new (S := S0) (o := .tup [.str "told", .ref c]) s8.1 hu)
      have T9 := T8.ext g9.same
      have n9 : NoT (upd G8 u (.tup [.str "told", .ref c])) := n8.new fun ps z => by cases z
      have o9 : upd G8 u (.tup [.str "told", .ref c]) u = some (.tup [.str "told", .ref c]) := upd_same
      have c9 := g9.ff _ _ o8
      have f9 : ∀ H', Src (upd G8 u (.tup [.str "told", .ref c])) H' p → Src F H' p := fun H' s => f8 H' (s.weak g9.ff)
      clear g9
      generalize upd G8 u (.tup [.str "told", .ref c]) = G9 at s9 n9 o9 c9 f9
      generalize upd H8 u (.tup [.str "told", .ref c]) = H9 at s9 T9 ⊢
      walk_at "r"
      refine s_lam T9 fun H10 x10 T10 => ?_
      have s10 := s9.ext n9 x10
      show tCall _ _ _ _ _ _ _
      walk_at "r"
      have ew : ((blen n : Int) + r - 2).toNat = r.toNat - 2 + blen n := by omega
      refine ⟨rfl, (n : Int), _, rfl, .inl ⟨by omega, by omega, by omega, ?_, fun f H11 e11 f0 hf t H12 e12 ht => ?_⟩⟩
      · rw [ew, Int.toNat_natCast]
        exact Nat.lt_of_lt_of_le hbl (Nat.pow_le_pow_right (by decide) (by omega))
      rw [ew, Int.toNat_natCast] at hf
      have s12 := s10.of (e11.trans e12)
      have T12 := T10.ext (e11.trans e12)
      walk_at "r"
      refine s_neTold (ns := fixL (r.toNat - 2 + blen n) n) (by decide +kernel) (SqT.of ht) (SqT.of (s12.1 _ _ o9)) (SqL.of (e12 _ _ hf)) (SqL.of (s12.1 _ _ c9)) ?_
      walk_at "r"
      refine ⟨rfl, (n : Int), _, rfl, .inl ⟨by omega, by omega, by omega, by rw [Int.toNat_natCast, Int.toNat_natCast]; exact hbl, fun f2 H13 e13 f20 hf2 => ?_⟩⟩
      rw [Int.toNat_natCast, Int.toNat_natCast] at hf2
      walk_at "r"
      refine ⟨rfl, f2, fixL (blen n) n, rfl, hf2, fixL_bit _ _, fun H14 e14 => ?_⟩
      have s14 := s12.of (e13.trans e14)
      have T14 := T12.ext (e13.trans e14)
      walk_at "r"
      refine s_lam T14 fun H15 x15 T15 => ?_
      have s15 := s14.ext n9 x15
      show tCall _ _ _ _ _ _ _
      walk_at "r"
      refine ⟨rfl, _, _, rfl, .inr ⟨fun ⟨w0, _, _⟩ => by omega, rfl, .inr ⟨rfl, fun t2 H16 e16 ht2 => ?_⟩⟩⟩
      have s16 := s15.of e16
      have T16 := T15.ext e16
      walk_at "r"
      refine ⟨sz (by simp), fun y hy => ?_⟩
      have e17 : Same H16 (upd H16 y (.tup [.str "outside", .bl true, .bl false])) := (Stp.new (S := S0) (Same.refl _) hy).same
      have h17 : upd H16 y (.tup [.str "outside", .bl true, .bl false]) y = some (.tup [.str "outside", .bl true, .bl false]) := upd_same
      generalize upd H16 y (.tup [.str "outside", .bl true, .bl false]) = H17 at e17 h17 ⊢
      have s17 := s16.of e17
      have T17 := T16.ext e17
      refine s_neTs (SqT.of (e17 _ _ ht2)) (SqT.of h17) (by decide +kernel) ?_
      walk_at "r"
      refine s_lam T17 fun H18 x18 T18 => ?_
      have s18 := s17.ext n9 x18
      show tCall _ _ _ _ _ _ _
      walk_at "r"
      refine ⟨rfl, _, _, rfl, .inr ⟨fun ⟨_, w0, _⟩ => by omega, rfl, .inr ⟨rfl, fun t3 H19 e19 ht3 => ?_⟩⟩⟩
      have s19 := s18.of e19
      have T19 := T18.ext e19
      walk_at "r"
      refine ⟨sz (by simp), fun y2 hy2 => ?_⟩
      have e20 : Same H19 (upd H19 y2 (.tup [.str "outside", .bl true, .bl false])) := (Stp.new (S := S0) (Same.refl _) hy2).same
      have h20 : upd H19 y2 (.tup [.str "outside", .bl true, .bl false]) y2 = some (.tup [.str "outside", .bl true, .bl false]) := upd_same
      generalize upd H19 y2 (.tup [.str "outside", .bl true, .bl false]) = H20 at e20 h20 ⊢
      walk_at "r"
      refine s_eqTs (SqT.of (e20 _ _ ht3)) (SqT.of h20) (by decide +kernel) ?_
      walk_at "r"
      refine ⟨rfl, 0, 0, rfl, .inl ⟨by decide, by decide, by decide, by decide, fun f3 H21 e21 f30 hf3 => ?_⟩⟩
      walk_at "r"
      refine ⟨sz (by simp), fun y3 hy3 => ?_⟩
      have g22 := (Stp.new (S := S0) (o := .lst []) (Same.refl H21) hy3).same
      refine s_eqL (ns := []) (ms := []) (SqL.of (g22 _ _ hf3)) (SqL.of upd_same) ?_
      exact q _ (f9 _ (s19.of (e20.trans (e21.trans g22)))) (T19.ext (e20.trans (e21.trans g22)))
    · walk_at "r"
      refine s_lam T4 fun H10 x10 T10 => ?_
      have s10 := s4.ext n4 x10
      show tCall _ _ _ _ _ _ _
      walk_at "r"
      refine ⟨rfl, (n : Int), _, rfl, .inr ⟨fun ⟨_, w0, w1⟩ => ?_, rfl, .inr ⟨rfl, fun t H12 e12 ht => ?_⟩⟩⟩
      · rw [Int.toNat_natCast] at w1
        have := blen_le w1
        omega
      have s12 := s10.of e12
      have T12 := T10.ext e12
      walk_at "r"
      refine s_neTs (SqT.of ht) (SqT.of (s12.1 _ _ o4)) (by decide +kernel) ?_
      walk_at "r"
      refine ⟨rfl, (n : Int), _, rfl, .inl ⟨by omega, by omega, by omega, by rw [Int.toNat_natCast, Int.toNat_natCast]; exact hbl, fun f2 H13 e13 f20 hf2 => ?_⟩⟩
      rw [Int.toNat_natCast, Int.toNat_natCast] at hf2
      walk_at "r"
      refine ⟨rfl, f2, fixL (blen n) n, rfl, hf2, fixL_bit _ _, fun H14 e14 => ?_⟩
      have s14 := s12.of (e13.trans e14)
      have T14 := T12.ext (e13.trans e14)
      walk_at "r"
      refine s_lam T14 fun H15 x15 T15 => ?_
      have s15 := s14.ext n4 x15
      show tCall _ _ _ _ _ _ _
      walk_at "r"
      refine ⟨rfl, _, _, rfl, .inr ⟨fun ⟨w0, _, _⟩ => by omega, rfl, .inr ⟨rfl, fun t2 H16 e16 ht2 => ?_⟩⟩⟩
      have s16 := s15.of e16
      have T16 := T15.ext e16
      walk_at "r"
      refine ⟨sz (by simp), fun y hy => ?_⟩
      have e17 : Same H16 (upd H16 y (.tup [.str "outside", .bl true, .bl false])) := (Stp.new (S := S0) (Same.refl _) hy).same
      have h17 : upd H16 y (.tup [.str "outside", .bl true, .bl false]) y = some (.tup [.str "outside", .bl true, .bl false]) := upd_same
      generalize upd H16 y (.tup [.str "outside", .bl true, .bl false]) = H17 at e17 h17 ⊢
      have s17 := s16.of e17
      have T17 := T16.ext e17
      refine s_neTs (SqT.of (e17 _ _ ht2)) (SqT.of h17) (by decide +kernel) ?_
      walk_at "r"
      refine s_lam T17 fun H18 x18 T18 => ?_
      have s18 := s17.ext n4 x18
      show tCall _ _ _ _ _ _ _
      walk_at "r"
      refine ⟨rfl, _, _, rfl, .inr ⟨fun ⟨_, w0, _⟩ => by omega, rfl, .inr ⟨rfl, fun t3 H19 e19 ht3 => ?_⟩⟩⟩
      have s19 := s18.of e19
      have T19 := T18.ext e19
      walk_at "r"
      refine ⟨sz (by simp), fun y2 hy2 => ?_⟩
      have e20 : Same H19 (upd H19 y2 (.tup [.str "outside", .bl true, .bl false])) := (Stp.new (S := S0) (Same.refl _) hy2).same
      have h20 : upd H19 y2 (.tup [.str "outside", .bl true, .bl false]) y2 = some (.tup [.str "outside", .bl true, .bl false]) := upd_same
      generalize upd H19 y2 (.tup [.str "outside", .bl true, .bl false]) = H20 at e20 h20 ⊢
      walk_at "r"
      refine s_eqTs (SqT.of (e20 _ _ ht3)) (SqT.of h20) (by decide +kernel) ?_
      walk_at "r"
      refine ⟨rfl, 0, 0, rfl, .inl ⟨by decide, by decide, by decide, by decide, fun f3 H21 e21 f30 hf3 => ?_⟩⟩
      walk_at "r"
      refine ⟨sz (by simp), fun y3 hy3 => ?_⟩
      have g22 := (Stp.new (S := S0) (o := .lst []) (Same.refl H21) hy3).same
      refine s_eqL (ns := []) (ms := []) (SqL.of (g22 _ _ hf3)) (SqL.of upd_same) ?_
      exact q _ (f4 _ (s19.of (e20.trans (e21.trans g22)))) (T19.ext (e20.trans (e21.trans g22)))
abbrev s_law_read_right : Stmt := topS 26
theorem sc_law_read_right : FnScope ["_law_source", "_law_count_here", "_law_code_here", "_law_ahead", "_law_behind", "_law_told", "_law_whole", "_law_due"] ["_law_source"] (defScope s_law_read_right) := ⟨rfl, rfl, rfl, by decide +kernel, rfl, by decide +kernel, by decide +kernel⟩
def Ok_law_read_right (P : Program) (w : World) (K : PySem.W.Frag) (mg : Str → Option Value) (base : Heap) : Prop := ∃ fA fd, Fn P w K mg base (L2.CX P w) 5 "_law_read_right" s_law_read_right fA fd ["_law_source"] (sp_law_read_right K mg)
theorem okx_law_read_right (Z : Zs K mg) {fA : Addr} {fd : FuncData} (F : Fun K "_law_read_right" "_law_read_right" s_law_read_right fA fd) (m : mg "_law_read_right" = some (.ref fA)) (C_read_count : Ok_read_count P w K mg base) (C_count_bits : Ok_count_bits P w K mg base) (C_law_are_bits : Ok_law_are_bits P w K mg base) (C_law_bits : Ok_law_bits P w K mg base) (C_law_code : Ok_law_code P w K mg base) (C_law_count : Ok_law_count P w K mg base) : Fn P w K mg base (L2.CX P w) 5 "_law_read_right" s_law_read_right fA fd ["_law_source"] (sp_law_read_right K mg) := by
  obtain ⟨_, _, C_read_count⟩ := C_read_count
  obtain ⟨_, _, C_count_bits⟩ := C_count_bits
  obtain ⟨_, _, C_law_are_bits⟩ := C_law_are_bits
  obtain ⟨_, _, C_law_bits⟩ := C_law_bits
  obtain ⟨_, _, C_law_code⟩ := C_law_code
  obtain ⟨_, _, C_law_count⟩ := C_law_count
  refine ⟨F.okX sc_law_read_right (fun vs H Q E h => h.1) (fun cdv A outer s H vs Q E hr h => ?_), m, F.kp, F.binds fun _ _ _ _ _ _ us hl => match us, hl with | [_], _ => rfl, F⟩
  have hu64 := hr.units
  obtain ⟨hlen, h⟩ := h
  refine ⟨_, (pss_cons (ps_set (i := 1) sc_law_read_right.nd rfl (Or.inl rfl) (pe_call C_law_count.G (hr.mono (by decide)) rfl C_law_count.m C_law_count.kp C_law_count.b .nil passL (pa_cons (pv 0) pa_nil)))
    (pss_cons (ps_par3 (i := 2) (j := 3) (l := 4) (by rfl) sc_law_read_right.nd rfl rfl rfl (by decide) (by decide) (by decide) rfl rfl rfl (pa_cons (pe_call C_law_code.G (hr.mono (by decide)) rfl C_law_code.m C_law_code.kp C_law_code.b .nil passL (pa_cons (pv 1) pa_nil)) (pa_cons (pe_call C_law_bits.G (hr.mono (by decide)) rfl C_law_bits.m C_law_bits.kp C_law_bits.b .nil passL (pa_cons (pv 0) (pa_cons pe_int pa_nil))) (pa_cons (pe_call C_law_bits.G (hr.mono (by decide)) rfl C_law_bits.m C_law_bits.kp C_law_bits.b .nil passL (pa_cons (pv 0) (pa_cons pe_int pa_nil))) pa_nil))) (by rfl))
    (pss_cons (ps_set (i := 5) sc_law_read_right.nd rfl (Or.inl rfl) (pe_call C_count_bits.G (hr.mono (by decide)) rfl C_count_bits.m C_count_bits.kp C_count_bits.b .nil passL (pa_cons (pv 1) pa_nil)))
    (pss_cons (ps_if (PW.pt (pw_or (pt_cmpR (o_neD K rfl hu64) (pv 5) (pv 2) (nomark _)) (pw_or1 (pt_not (pt_val (pe_call C_law_are_bits.G (hr.mono (by decide)) rfl C_law_are_bits.m C_law_are_bits.kp C_law_are_bits.b .nil passL (pa_cons (pv 5) pa_nil)))))))
      (pss_one (ps_ret pe_bl))
      pss_nil)
    (pss_cons (ps_expr (pe_bm PySem.F.plainAttrs_list PySem.F.slot_list_append PySem.F.type_list_append mt_append (pv 5) (pa_cons pe_int pa_nil)))
    (pss_cons (ps_set (i := 6) sc_law_read_right.nd rfl (Or.inl rfl) (pe_op op_cat (pe_op op_cat (pv 3) (pv 2)) (pv 4)))
    (pss_cons (ps_set (i := 7) sc_law_read_right.nd rfl (Or.inl rfl) (pe_tup (pa_cons pe_str (pa_cons (pv 1) (pa_cons (pe_op op_add (pe_callB (c_len K rfl) (by rfl) Z.z_len (by decide +kernel) (pa_cons (pv 3) pa_nil)) (pe_callB (c_len K rfl) (by rfl) Z.z_len (by decide +kernel) (pa_cons (pv 2) pa_nil))) pa_nil)))))
    (pss_cons (ps_if (PW.pt (pw_or (pt_cmpR (o_neD K rfl hu64) (pe_callK0 C_count_bits.G (hr.mono (by decide)) rfl C_count_bits.m C_count_bits.kp (C_count_bits.F.kbinds 0 ["n"] (by decide) (fun _ _ _ _ _ _ us ws hu hw => match us, ws, hu, hw with | [], [_], _, _ => rfl)) passL (pk_cons (pv 1) pk_nil)) (pv 2) (nomark _)) (pw_or1 (pt_cmpR (o_neD K rfl hu64) (pe_call C_read_count.G (hr.mono (by decide)) rfl C_read_count.m C_read_count.kp C_read_count.b .nil passL (pa_cons (pv 6) (pa_cons (pe_callB (c_len K rfl) (by rfl) Z.z_len (by decide +kernel) (pa_cons (pv 3) pa_nil)) pa_nil))) (pv 7) (nomark _)))))
      (pss_one (ps_ret pe_bl))
      pss_nil)
    (pss_cons (ps_if (PW.pt (pw_or (pt_cmpR (o_neD K rfl hu64) (pe_callK0 C_read_count.G (hr.mono (by decide)) rfl C_read_count.m C_read_count.kp (C_read_count.F.kbinds 0 ["bits", "at"] (by decide) (fun _ _ _ _ _ _ us ws hu hw => match us, ws, hu, hw with | [], [_, _], _, _ => rfl)) passL (pk_cons (pv 6) (pk_cons (pe_callB (c_len K rfl) (by rfl) Z.z_len (by decide +kernel) (pa_cons (pv 3) pa_nil)) pk_nil))) (pv 7) (nomark _)) (pw_or1 (pt_cmpR (o_neD K rfl hu64) (pv 6) (pe_op op_cat (pe_op op_cat (pv 3) (pv 2)) (pv 4)) (nomark _)))))
      (pss_one (ps_ret pe_bl))
      pss_nil)
    (pss_one (ps_ret (pe_not (pe_callB (c_isi K rfl) (by rfl) Z.z_isinstance (by decide +kernel) (pa_cons (pe_ix (i_tup K rfl) (pe_call C_read_count.G (hr.mono (by decide)) rfl C_read_count.m C_read_count.kp C_read_count.b .nil passL (pa_cons (pv 6) (pa_cons (pe_callB (c_len K rfl) (by rfl) Z.z_len (by decide +kernel) (pa_cons (pv 3) pa_nil)) pa_nil))) pe_int (fun _ _ => rfl)) (pa_cons (pe_bltn (v := .ty "bool") (by rfl) Z.z_bool (by decide +kernel) rfl) pa_nil))))))))))))))), ?_⟩
  obtain ⟨F, p, rfl, hs, q⟩ := h
  walk_at "r"
  refine ⟨rfl, F, p, rfl, hs, fun n' H1 s1 t1 n0 n1 => ?_⟩
  obtain ⟨n, rfl⟩ : ∃ n : Nat, n' = n := ⟨n'.toNat, by omega⟩
  have hn : n ≤ 2199023255550 := by omega
  walk_at "r"
  refine ⟨rfl, n, rfl, hn, fun c H2 e2 c0 hc => ?_⟩
  have g2 := Stp.got (S := S1 p) s1.1 e2 c0 hc
  have s2 := (s1.of e2).frz (s1.ne c0) g2.fh
  have t2 := t1.trans g2
  have e_c : upd F c (.lst ((countL n).map V.int)) c = some (.lst ((countL n).map V.int)) := upd_same
  clear g2
  generalize upd F c (.lst ((countL n).map V.int)) = F2 at s2 t2 e_c
  walk_at "r"
  refine ⟨rfl, F2, p, _, rfl, s2, by decide, by decide, fun qa A F3 H3 s3 t3 hA bA lA => ?_⟩
  replace e_c := t3.ff _ _ e_c
  walk_at "r"
  refine ⟨rfl, F3, p, _, rfl, s3, by decide, by decide, fun qb B F4 H4 s4 t4 hB bB lB => ?_⟩
  replace e_c := t4.ff _ _ e_c
  replace hA := t4.ff _ _ hA
  have tt4 := (t2.trans t3).trans t4
  have hlC := countL_len n hn
  walk_at "r"
  refine ⟨rfl, (n : Int), rfl, .inl ⟨by omega, by omega, fun g H5 e5 g0 hg => ?_⟩⟩
  rw [Int.toNat_natCast] at hg
  have s5 := s4.of e5
  walk_at "r"
  refine s_neL (SqL.of hg) (SqL.of (s5.1 _ _ e_c)) ?_
  walk_at "r"
  refine ifn (fun _ => ?_) (fun h => absurd rfl h)
  walk_at "r"
  refine ⟨rfl, g, _, rfl, hg, countL_bit _ hn, fun H6 e6 => ?_⟩
  walk_at "r"
  refine ⟨.inl ⟨rfl, _, SqL.of (e6 _ _ hg)⟩, ?_⟩
  walk_at "r"
  refine ⟨g, _, _, rfl, rfl, e6 _ _ hg, Nat.lt_of_lt_of_le (m := 10000) (by simp; omega) (by decide), ?_⟩
  have e7 : Same H4 (upd H6 g (.lst ((countL n).map V.int ++ [.int 1]))) := fun b o h => by
    rw [upd_ne (ne_of_none h g0)]; exact e6 _ _ (e5 _ _ h)
  generalize upd H6 g (.lst ((countL n).map V.int ++ [.int 1])) = H7 at e7 ⊢
  replace e_c := e7 _ _ (s4.1 _ _ e_c)
  have e_qa := e7 _ _ (s4.1 _ _ hA)
  have e_qb := e7 _ _ (s4.1 _ _ hB)
  have cr := cntR_code hn A B
  have hCb := countL_bit n hn
  have fl : ([.str "read", .int n, .int ((A.length + (countL n).length : Nat) : Int)] : List V).all flatW = true := by show (PyData.strOk (Str.ofString "read") && (true && (true && true))) = true; decide +kernel
  obtain ⟨C, hCe⟩ : ∃ C, countL n = C := ⟨_, rfl⟩
  rw [hCe] at e_c cr hCb fl hlC
  walk_at "r"
  refine ⟨_, _, _, _, rfl, rfl, e_qa, e_c, sz (by simp; omega), fun x1 hx1 => ?_⟩
  have g_20 : Same H7 (upd H7 x1 (.lst (A.map V.int ++ C.map V.int))) := (Stp.new (S := S0) (Same.refl _) hx1).same
  have e_x1 : upd H7 x1 (.lst (A.map V.int ++ C.map V.int)) x1 = some (.lst (A.map V.int ++ C.map V.int)) := upd_same
  generalize upd H7 x1 (.lst (A.map V.int ++ C.map V.int)) = H_20 at g_20 e_x1 ⊢
  replace e_c := g_20 _ _ e_c
  replace e_qa := g_20 _ _ e_qa
  replace e_qb := g_20 _ _ e_qb
  walk_at "r"
  refine ⟨_, _, _, _, rfl, rfl, e_x1, e_qb, sz (by simp; omega), fun w hw => ?_⟩
  have g_21 : Same H_20 (upd H_20 w (.lst (A.map V.int ++ C.map V.int ++ B.map V.int))) := (Stp.new (S := S0) (Same.refl _) hw).same
  have e_w : upd H_20 w (.lst (A.map V.int ++ C.map V.int ++ B.map V.int)) w = some (.lst (A.map V.int ++ C.map V.int ++ B.map V.int)) := upd_same
  generalize upd H_20 w (.lst (A.map V.int ++ C.map V.int ++ B.map V.int)) = H_21 at g_21 e_w ⊢
  replace e_c := g_21 _ _ e_c
  replace e_qa := g_21 _ _ e_qa
  replace e_qb := g_21 _ _ e_qb
  replace e_x1 := g_21 _ _ e_x1
  have ew : A.map V.int ++ C.map V.int ++ B.map V.int = (A ++ C ++ B).map V.int := by simp
  rw [ew] at e_w
  walk_at "r"
  refine ⟨sz (by simp), fun u hu => ?_⟩
  have g_22 : Same H_21 (upd H_21 u (.tup [.str "read", .int n, .int (((A.map V.int).length : Int) + ((C.map V.int).length : Int))])) := (Stp.new (S := S0) (Same.refl _) hu).same
  have e_u : upd H_21 u (.tup [.str "read", .int n, .int (((A.map V.int).length : Int) + ((C.map V.int).length : Int))]) u = some (.tup [.str "read", .int n, .int (((A.map V.int).length : Int) + ((C.map V.int).length : Int))]) := upd_same
  generalize upd H_21 u (.tup [.str "read", .int n, .int (((A.map V.int).length : Int) + ((C.map V.int).length : Int))]) = H_22 at g_22 e_u ⊢
  replace e_c := g_22 _ _ e_c
  replace e_qa := g_22 _ _ e_qa
  replace e_qb := g_22 _ _ e_qb
  replace e_x1 := g_22 _ _ e_x1
  replace e_w := g_22 _ _ e_w
  rw [show (((A.map V.int).length : Int) + ((C.map V.int).length : Int)) = ((A.length + C.length : Nat) : Int) by simp] at e_u
  walk_at "r"
  refine ⟨rfl, (n : Int), rfl, .inl ⟨by omega, by omega, fun y H_23 g_23 _ e_y => ?_⟩⟩
  replace e_c := g_23 _ _ e_c
  replace e_qa := g_23 _ _ e_qa
  replace e_qb := g_23 _ _ e_qb
  replace e_x1 := g_23 _ _ e_x1
  replace e_w := g_23 _ _ e_w
  replace e_u := g_23 _ _ e_u
  rw [Int.toNat_natCast, hCe] at e_y
  walk_at "r"
  refine s_neL (SqL.of e_y) (SqL.of e_c) ?_
  walk_at "r"
  refine ifn (fun _ => ?_) (fun h => absurd rfl h)
  walk_at "r"
  refine ⟨rfl, w, A ++ C ++ B, A.length, by simp [gK], SqL.of e_w, by simp <;> omega, by simp <;> omega, (bA.app hCb).app bB, fun r1 H_24 g_24 _ e_r1 => ?_⟩
  replace e_c := g_24 _ _ e_c
  replace e_qa := g_24 _ _ e_qa
  replace e_qb := g_24 _ _ e_qb
  replace e_x1 := g_24 _ _ e_x1
  replace e_w := g_24 _ _ e_w
  replace e_u := g_24 _ _ e_u
  replace e_y := g_24 _ _ e_y
  rw [cr] at e_r1
  walk_at "r"
  refine s_neTs (SqT.of e_r1) (SqT.of e_u) fl ?_
  walk_at "r"
  refine ⟨rfl, w, A ++ C ++ B, A.length, by simp [gK], SqL.of e_w, by simp <;> omega, by simp <;> omega, (bA.app hCb).app bB, fun r2 H_25 g_25 _ e_r2 => ?_⟩
  replace e_c := g_25 _ _ e_c
  replace e_qa := g_25 _ _ e_qa
  replace e_qb := g_25 _ _ e_qb
  replace e_x1 := g_25 _ _ e_x1
  replace e_w := g_25 _ _ e_w
  replace e_u := g_25 _ _ e_u
  replace e_y := g_25 _ _ e_y
  replace e_r1 := g_25 _ _ e_r1
  rw [cr] at e_r2
  walk_at "r"
  refine s_neTs (SqT.of e_r2) (SqT.of e_u) fl ?_
  walk_at "r"
  refine ⟨_, _, _, _, rfl, rfl, e_qa, e_c, sz (by simp; omega), fun x2 hx2 => ?_⟩
  have g_26 : Same H_25 (upd H_25 x2 (.lst (A.map V.int ++ C.map V.int))) := (Stp.new (S := S0) (Same.refl _) hx2).same
  have e_x2 : upd H_25 x2 (.lst (A.map V.int ++ C.map V.int)) x2 = some (.lst (A.map V.int ++ C.map V.int)) := upd_same
  generalize upd H_25 x2 (.lst (A.map V.int ++ C.map V.int)) = H_26 at g_26 e_x2 ⊢
  replace e_c := g_26 _ _ e_c
  replace e_qa := g_26 _ _ e_qa
  replace e_qb := g_26 _ _ e_qb
  replace e_x1 := g_26 _ _ e_x1
  replace e_w := g_26 _ _ e_w
  replace e_u := g_26 _ _ e_u
  replace e_y := g_26 _ _ e_y
  replace e_r1 := g_26 _ _ e_r1
  replace e_r2 := g_26 _ _ e_r2
  walk_at "r"
  refine ⟨_, _, _, _, rfl, rfl, e_x2, e_qb, sz (by simp; omega), fun x3 hx3 => ?_⟩
  have g_27 : Same H_26 (upd H_26 x3 (.lst (A.map V.int ++ C.map V.int ++ B.map V.int))) := (Stp.new (S := S0) (Same.refl _) hx3).same
  have e_x3 : upd H_26 x3 (.lst (A.map V.int ++ C.map V.int ++ B.map V.int)) x3 = some (.lst (A.map V.int ++ C.map V.int ++ B.map V.int)) := upd_same
  generalize upd H_26 x3 (.lst (A.map V.int ++ C.map V.int ++ B.map V.int)) = H_27 at g_27 e_x3 ⊢
  replace e_c := g_27 _ _ e_c
  replace e_qa := g_27 _ _ e_qa
  replace e_qb := g_27 _ _ e_qb
  replace e_x1 := g_27 _ _ e_x1
  replace e_w := g_27 _ _ e_w
  replace e_u := g_27 _ _ e_u
  replace e_y := g_27 _ _ e_y
  replace e_r1 := g_27 _ _ e_r1
  replace e_r2 := g_27 _ _ e_r2
  replace e_x2 := g_27 _ _ e_x2
  rw [ew] at e_x3
  walk_at "r"
  refine s_neL (SqL.of e_w) (SqL.of e_x3) ?_
  walk_at "r"
  refine ifn (fun _ => ?_) (fun h => absurd rfl h)
  walk_at "r"
  refine ⟨rfl, w, A ++ C ++ B, A.length, by simp [gK], SqL.of e_w, by simp <;> omega, by simp <;> omega, (bA.app hCb).app bB, fun r3 H_28 g_28 _ e_r3 => ?_⟩
  replace e_c := g_28 _ _ e_c
  replace e_qa := g_28 _ _ e_qa
  replace e_qb := g_28 _ _ e_qb
  replace e_x1 := g_28 _ _ e_x1
  replace e_w := g_28 _ _ e_w
  replace e_u := g_28 _ _ e_u
  replace e_y := g_28 _ _ e_y
  replace e_r1 := g_28 _ _ e_r1
  replace e_r2 := g_28 _ _ e_r2
  replace e_x2 := g_28 _ _ e_x2
  replace e_x3 := g_28 _ _ e_x3
  rw [cr] at e_r3
  walk_at "r"
  refine s_isi (b := false) (.base (.int n)) (by decide +kernel) ?_
  walk_at "r"
  exact q _ _ (s4.of (e7.trans (g_20.trans (g_21.trans (g_22.trans (g_23.trans (g_24.trans (g_25.trans (g_26.trans (g_27.trans (g_28))))))))))) (tt4.trans (.ofSame s4.1 (e7.trans (g_20.trans (g_21.trans (g_22.trans (g_23.trans (g_24.trans (g_25.trans (g_26.trans (g_27.trans (g_28))))))))))))
abbrev s_law : Stmt := topS 27
theorem sc_law : FnScope ["_law_script", "_law_k", "_law_source", "_law_beyond"] ["_law_script"] (defScope s_law) := ⟨rfl, rfl, rfl, by decide +kernel, rfl, by decide +kernel, by decide +kernel⟩
def Ok_law (T : Tbs) (P : Program) (w : World) (K : PySem.W.Frag) (mg : Str → Option Value) (base : Heap) : Prop := ∃ fA fd, Fn P w K mg base (L2.CX P w) 6 "law" s_law fA fd ["_law_script"] (sp_law T K mg)
theorem okx_law (Z : Zs K mg) {fA : Addr} {fd : FuncData} (F : Fun K "law" "law" s_law fA fd) (m : mg "law" = some (.ref fA)) {T : Tbs} {c0 P0 : Addr} (TB : LamX.TabB base mg c0 P0) (hcode : fd.code = .ref c0) (hmT : (P0, qLam "law") ∈ T) (hu : ∀ p ∈ T, p.1 = P0 → p.2 = qLam "law") (C_law_word : OkG K mg "_law_word" "_law_call" s_law_word ["_law_call", "_law_told", "e"]) (C_count_bits : Ok_count_bits P w K mg base) (C_law_take : Ok_law_take P w K mg base) (C_law_fixed_right : Ok_law_fixed_right T P w K mg base) (C_law_read_right : Ok_law_read_right P w K mg base) (C_law_pool : Ok_law_pool P w K mg base) : Fn P w K mg base (L2.CX P w) 6 "law" s_law fA fd ["_law_script"] (sp_law T K mg) := by
  obtain ⟨_, _, C_law_word⟩ := C_law_word
  obtain ⟨_, _, C_count_bits⟩ := C_count_bits
  obtain ⟨_, _, C_law_take⟩ := C_law_take
  obtain ⟨_, _, C_law_fixed_right⟩ := C_law_fixed_right
  obtain ⟨_, _, C_law_read_right⟩ := C_law_read_right
  obtain ⟨_, _, C_law_pool⟩ := C_law_pool
  refine ⟨okXc F sc_law (fun vs H Q E h => h.1) (fun A outer s H vs Q E hr h => ?_), m, F.kp, F.binds fun _ _ _ _ _ _ us hl => match us, hl with | [_], _ => rfl, F⟩
  have hu64 := hr.units
  obtain ⟨hlen, h⟩ := h
  refine ⟨_, (pss_cons (ps_for (passes_of rfl) rfl (pi_range1 rfl Z.z_range (pa_cons (pe_callB (c_max2 rfl) (by rfl) Z.z_max (by decide +kernel) (pa_cons pe_int (pa_cons (pe_callB (c_min2 rfl) (by rfl) Z.z_min (by decide +kernel) (pa_cons (pe_callB (c_len K rfl) (by rfl) Z.z_len (by decide +kernel) (pa_cons (pv 0) pa_nil)) (pa_cons pe_int pa_nil))) pa_nil))) pa_nil)) (pg_name (i := 1) sc_law.nd rfl (Or.inl rfl))
      (pss_cons (ps_set (i := 2) sc_law.nd rfl (Or.inl rfl) (pe_call C_law_pool.G (hr.mono (by decide)) rfl C_law_pool.m C_law_pool.kp C_law_pool.b .nil passL (pa_cons (pv 0) (pa_cons (pv 1) pa_nil))))
    (pss_cons (ps_if (PW.pt (pw_or (pt_not (pt_val (pe_call C_law_read_right.G (hr.mono (by decide)) rfl C_law_read_right.m C_law_read_right.kp C_law_read_right.b .nil passL (pa_cons (pv 2) pa_nil)))) (pw_or1 (pt_not (pt_val (pe_call C_law_fixed_right.G (hr.mono (by decide)) rfl C_law_fixed_right.m C_law_fixed_right.kp C_law_fixed_right.b .nil passL (pa_cons (pv 2) pa_nil)))))))
      (pss_one (ps_ret pe_bl))
      pss_nil)
    (pss_one (ps_for (passes_of rfl) rfl (pi_list (pe_lst (pa_cons (pe_op op_sub (pe_un un_neg pe_int) (pe_call C_law_take.G (hr.mono (by decide)) rfl C_law_take.m C_law_take.kp C_law_take.b .nil passL (pa_cons (pv 2) (pa_cons pe_int pa_nil)))) (pa_cons (pe_op op_add (pe_op op_sub (pe_op op_pow pe_int pe_int) pe_int) (pe_call C_law_take.G (hr.mono (by decide)) rfl C_law_take.m C_law_take.kp C_law_take.b .nil passL (pa_cons (pv 2) (pa_cons pe_int pa_nil)))) pa_nil)))) (pg_name (i := 3) sc_law.nd rfl (Or.inr rfl))
      (pss_one (ps_if (pt_cmpR (o_neD K rfl hu64) (pe_lam (k := 2) C_law_word rfl rfl (Or.inl rfl) (gv_law_word Z _) TB hcode hmT hu (hr.mono (by decide)) (LamX.lamS_by (by rfl)) rfl (fun _ _ _ _ _ => rfl) (fun A outer s H E f c' hr => (pe_call C_count_bits.G (hr.mono (by decide)) rfl C_count_bits.m C_count_bits.kp C_count_bits.b .nil (passes_call (takes_of rfl rfl rfl rfl) (fun _ _ _ _ h => h)) (pa_cons (pv 3) pa_nil)))) (pe_tup (pa_cons pe_str (pa_cons pe_bl (pa_cons pe_bl pa_nil)))) (nomark _))
      (pss_one (ps_ret pe_bl))
      pss_nil)))))))
    (pss_one (ps_ret (pe_cmpR (o_eqD K rfl hu64) (pe_lam (k := 2) C_law_word rfl rfl (Or.inl rfl) (gv_law_word Z _) TB hcode hmT hu (hr.mono (by decide)) (LamX.lamS_by (by rfl)) rfl (fun _ _ _ _ _ => rfl) (fun A outer s H E f c' hr => (pe_call C_count_bits.G (hr.mono (by decide)) rfl C_count_bits.m C_count_bits.kp C_count_bits.b .nil (passes_call (takes_of rfl rfl rfl rfl) (fun _ _ _ _ h => h)) (pa_cons (pe_op op_sub (pe_op op_pow pe_int pe_int) pe_int) pa_nil)))) (pe_tup (pa_cons pe_str (pa_cons (pe_op op_cat (pe_op op_rep (pe_lst (pa_cons pe_int pa_nil)) pe_int) (pe_op op_rep (pe_lst (pa_cons pe_int pa_nil)) pe_int)) pa_nil))) (nomark _))))), ?_⟩
  obtain ⟨sc, ns, rfl, hS, hl, hT, q⟩ := h
  have hS0 := SqL.cut hS
  have e0 := cutT_same H
  have n0 := cutT_no H
  generalize cutT H = F0 at hS0 e0 n0
  walk_at "r"
  refine ⟨_, rfl, by split <;> omega, by split <;> omega, ?_⟩
  refine forR (fun i σ H' => ∃ v1 v2 v3, σ = [some (.ref sc), v1, v2, v3] ∧ Same F0 H' ∧ LamX.Tabs T H') ⟨_, _, _, rfl, e0, hT⟩ ?_ ?_
  · rintro i σ H1 hi ⟨v1, v2, v3, rfl, e1, T1⟩
    walk_at "r"
    refine ⟨rfl, sc, ns, _, rfl, e1.seq hS0, by omega, ?_, fun p H2 s2 => ?_⟩
    · have : i < 21 := Nat.lt_of_lt_of_le hi (by split <;> omega)
      omega
    have T2 := T1.ext s2.1
    have s2 : Src F0 H2 p := s2.weak e1
    walk_at "r"
    refine ⟨rfl, F0, p, rfl, s2, fun F3 H3 s3 t3 => ?_⟩
    have T3 := s2.tabs T2 t3
    have s3 : Src F0 H3 p := s3.weak t3.ff
    walk_at "r"
    refine ⟨rfl, F0, p, rfl, s3, n0, T3, fun H4 s4 T4 => ?_⟩
    walk_at "r"
    refine ⟨rfl, F0, p, _, rfl, s4, by decide, by decide, fun x1 H5 s5 t5 x10 x11 => ?_⟩
    have T5 := s4.tabs T4 t5
    walk_at "r"
    refine ⟨rfl, F0, p, _, rfl, s5, by decide, by decide, fun x2 H6 s6 t6 x20 x21 => ?_⟩
    have T6 := s5.tabs T5 t6
    have ep : (2 : Int) ^ Int.toNat 41 = 2199023255552 := by decide
    walk_at "r"
    rw [ep]
    refine ⟨sz (by simp), fun w hw => ?_⟩
    have s7 := s6.new (o := .lst [.int (-1 - x1), .int (2199023255552 - 1 + x2)]) hw
    have g7 := (Stp.new (S := S0) (o := .lst [.int (-1 - x1), .int (2199023255552 - 1 + x2)]) s6.1 hw)
    have T7 := T6.ext g7.same
    have n7 : NoT (upd F0 w (.lst [.int (-1 - x1), .int (2199023255552 - 1 + x2)])) := n0.new fun ps z => by cases z
    have o7 : upd F0 w (.lst [.int (-1 - x1), .int (2199023255552 - 1 + x2)]) w = some (.lst [.int (-1 - x1), .int (2199023255552 - 1 + x2)]) := upd_same
    have f7 := g7.ff
    clear g7
    generalize upd F0 w (.lst [.int (-1 - x1), .int (2199023255552 - 1 + x2)]) = F7 at s7 n7 o7 f7
    generalize upd H6 w (.lst [.int (-1 - x1), .int (2199023255552 - 1 + x2)]) = H7 at s7 T7 ⊢
    walk_at "r"
    refine ⟨_, rfl, ⟨_, s7.1.seq (SqL.of o7)⟩, ?_⟩
    refine forL (xs := [.int (-1 - x1), .int (2199023255552 - 1 + x2)]) (fun j σ H' => ∃ v, σ = [some (.ref sc), some (.int (0 + (i : Int))), some (.ref p), v] ∧ Same F7 H' ∧ LamX.Tabs T H') ⟨_, rfl, s7.1, T7⟩ (fun j σ H' _ ⟨_, _, s, _⟩ => s.seq (SqL.of o7)) ?_ ?_
    · rintro j x σ H8 hx ⟨v, rfl, e8, T8⟩
      obtain ⟨m, rfl, hm⟩ : ∃ m : Int, x = .int m ∧ ¬ (0 ≤ m ∧ m ≤ 2199023255550) := by
        have := List.mem_of_getElem? hx
        simp at this
        rcases this with rfl | rfl
        · exact ⟨_, rfl, by omega⟩
        · exact ⟨_, rfl, by omega⟩
      walk_at "r"
      refine s_lam T8 fun H9 x9 T9 => ?_
      have e9 := n7.ext e8 x9
      show tCall _ _ _ _ _ _ _
      walk_at "r"
      refine ⟨rfl, m, rfl, .inr ⟨hm, rfl, .inl ⟨rfl, fun t H10 e10 ht => ?_⟩⟩⟩
      walk_at "r"
      refine ⟨sz (by simp), fun y hy => ?_⟩
      have e11 : Same H10 (upd H10 y (.tup [.str "great", .bl true, .bl false])) := (Stp.new (S := S0) (Same.refl _) hy).same
      have h11 : upd H10 y (.tup [.str "great", .bl true, .bl false]) y = some (.tup [.str "great", .bl true, .bl false]) := upd_same
      generalize upd H10 y (.tup [.str "great", .bl true, .bl false]) = H11 at e11 h11 ⊢
      refine s_neTs (SqT.of (e11 _ _ ht)) (SqT.of h11) (by decide +kernel) ?_
      walk_at "r"
      exact ⟨_, rfl, e9.trans (e10.trans e11), T9.ext (e10.trans e11)⟩
    · rintro σ H8 ⟨v, rfl, e8, T8⟩
      exact ⟨_, _, _, rfl, f7.trans e8, T8⟩
  · rintro σ H1 ⟨v1, v2, v3, rfl, e1, T1⟩
    walk_at "r"
    refine s_lam T1 fun H2 x2 T2 => ?_
    show tCall _ _ _ _ _ _ _
    have ep : (2 : Int) ^ Int.toNat 41 = 2199023255552 := by decide
    walk_at "r"
    rw [ep]
    refine ⟨rfl, 2199023255550, rfl, .inl ⟨by decide, by decide, fun g H3 e3 _ hg t H4 e4 ht => ?_⟩⟩
    rw [show countL (2199023255550 : Int).toNat = List.replicate 40 0 ++ List.replicate 41 1 by decide +kernel] at hg
    have e_t := ht
    have e_g := e4 _ _ hg
    walk_at "r"
    refine ⟨sz (by simp), fun a ha => ?_⟩
    have g_30 : Same H4 (upd H4 a (.lst [.int 0])) := (Stp.new (S := S0) (Same.refl _) ha).same
    have e_a : upd H4 a (.lst [.int 0]) a = some (.lst [.int 0]) := upd_same
    generalize upd H4 a (.lst [.int 0]) = H_30 at g_30 e_a ⊢
    replace e_t := g_30 _ _ e_t
    replace e_g := g_30 _ _ e_g
    walk_at "r"
    refine s_rep e_a (by decide) (by decide) fun b hb => ?_
    have g_31 : Same H_30 (upd H_30 b (.lst (List.replicate (40 : Int).toNat (V.int 0)))) := (Stp.new (S := S0) (Same.refl _) hb).same
    have e_b : upd H_30 b (.lst (List.replicate (40 : Int).toNat (V.int 0))) b = some (.lst (List.replicate (40 : Int).toNat (V.int 0))) := upd_same
    generalize upd H_30 b (.lst (List.replicate (40 : Int).toNat (V.int 0))) = H_31 at g_31 e_b ⊢
    replace e_t := g_31 _ _ e_t
    replace e_g := g_31 _ _ e_g
    replace e_a := g_31 _ _ e_a
    walk_at "r"
    refine ⟨sz (by simp), fun c hc => ?_⟩
    have g_32 : Same H_31 (upd H_31 c (.lst [.int 1])) := (Stp.new (S := S0) (Same.refl _) hc).same
    have e_c : upd H_31 c (.lst [.int 1]) c = some (.lst [.int 1]) := upd_same
    generalize upd H_31 c (.lst [.int 1]) = H_32 at g_32 e_c ⊢
    replace e_t := g_32 _ _ e_t
    replace e_g := g_32 _ _ e_g
    replace e_a := g_32 _ _ e_a
    replace e_b := g_32 _ _ e_b
    walk_at "r"
    refine s_rep e_c (by decide) (by decide) fun d hd => ?_
    have g_33 : Same H_32 (upd H_32 d (.lst (List.replicate (41 : Int).toNat (V.int 1)))) := (Stp.new (S := S0) (Same.refl _) hd).same
    have e_d : upd H_32 d (.lst (List.replicate (41 : Int).toNat (V.int 1))) d = some (.lst (List.replicate (41 : Int).toNat (V.int 1))) := upd_same
    generalize upd H_32 d (.lst (List.replicate (41 : Int).toNat (V.int 1))) = H_33 at g_33 e_d ⊢
    replace e_t := g_33 _ _ e_t
    replace e_g := g_33 _ _ e_g
    replace e_a := g_33 _ _ e_a
    replace e_b := g_33 _ _ e_b
    replace e_c := g_33 _ _ e_c
    walk_at "r"
    refine ⟨_, _, _, _, rfl, rfl, e_b, e_d, sz (by decide), fun e he => ?_⟩
    have g_34 : Same H_33 (upd H_33 e (.lst (List.replicate (40 : Int).toNat (V.int 0) ++ List.replicate (41 : Int).toNat (V.int 1)))) := (Stp.new (S := S0) (Same.refl _) he).same
    have e_e : upd H_33 e (.lst (List.replicate (40 : Int).toNat (V.int 0) ++ List.replicate (41 : Int).toNat (V.int 1))) e = some (.lst (List.replicate (40 : Int).toNat (V.int 0) ++ List.replicate (41 : Int).toNat (V.int 1))) := upd_same
    generalize upd H_33 e (.lst (List.replicate (40 : Int).toNat (V.int 0) ++ List.replicate (41 : Int).toNat (V.int 1))) = H_34 at g_34 e_e ⊢
    replace e_t := g_34 _ _ e_t
    replace e_g := g_34 _ _ e_g
    replace e_a := g_34 _ _ e_a
    replace e_b := g_34 _ _ e_b
    replace e_c := g_34 _ _ e_c
    replace e_d := g_34 _ _ e_d
    walk_at "r"
    refine ⟨sz (by simp), fun f hf => ?_⟩
    have g_35 : Same H_34 (upd H_34 f (.tup [.str "told", .ref e])) := (Stp.new (S := S0) (Same.refl _) hf).same
    have e_f : upd H_34 f (.tup [.str "told", .ref e]) f = some (.tup [.str "told", .ref e]) := upd_same
    generalize upd H_34 f (.tup [.str "told", .ref e]) = H_35 at g_35 e_f ⊢
    replace e_t := g_35 _ _ e_t
    replace e_g := g_35 _ _ e_g
    replace e_a := g_35 _ _ e_a
    replace e_b := g_35 _ _ e_b
    replace e_c := g_35 _ _ e_c
    replace e_d := g_35 _ _ e_d
    replace e_e := g_35 _ _ e_e
    walk_at "r"
    refine s_eqTold (ns := List.replicate 40 0 ++ List.replicate 41 1) (by decide +kernel) (SqT.of e_t) (SqT.of e_f) (SqL.of e_g) (SqL.of (by rw [e_e]; simp)) ?_
    exact q _
end
theorem all_mk {l : PySem.W.OpenLaw} {w : World} {K : PySem.W.Frag} {h : Heap} {mg : Str → Option Value} {fa : Addr} (X : K.In h) (G : h.Ns mainGlobals mg) (hfa : mg "law" = some (.ref fa))
    {f0 : Addr} {od0 an0 : Option Addr} {sl0 : Array (Option Value)} {oc0 kV0 dc0 pm0 cd0 ct0 : Value}
    (a0 : PySem.W.nsIn K mainGlobals "is_bit" = some (some (.ref f0))) (l0 : K.lookup f0 = some ⟨oc0, od0, .func (PySem.W.fnOf "is_bit" "is_bit" (defArgs s_is_bit) (defBody s_is_bit) (defScope s_is_bit) .none kV0 dc0 pm0 an0 cd0 ct0), sl0⟩) (c0 : PySem.W.codeIn K cd0 "is_bit" = true) (k0 : PySem.W.keepIn K (.ref f0) = true)
    {f1 : Addr} {od1 an1 : Option Addr} {sl1 : Array (Option Value)} {oc1 kV1 dc1 pm1 cd1 ct1 : Value}
    (a1 : PySem.W.nsIn K mainGlobals "check_bits" = some (some (.ref f1))) (l1 : K.lookup f1 = some ⟨oc1, od1, .func (PySem.W.fnOf "check_bits" "check_bits" (defArgs s_check_bits) (defBody s_check_bits) (defScope s_check_bits) .none kV1 dc1 pm1 an1 cd1 ct1), sl1⟩) (c1 : PySem.W.codeIn K cd1 "check_bits" = true) (k1 : PySem.W.keepIn K (.ref f1) = true)
    {f2 : Addr} {od2 an2 : Option Addr} {sl2 : Array (Option Value)} {oc2 kV2 dc2 pm2 cd2 ct2 : Value}
    (a2 : PySem.W.nsIn K mainGlobals "number_of" = some (some (.ref f2))) (l2 : K.lookup f2 = some ⟨oc2, od2, .func (PySem.W.fnOf "number_of" "number_of" (defArgs s_number_of) (defBody s_number_of) (defScope s_number_of) .none kV2 dc2 pm2 an2 cd2 ct2), sl2⟩) (c2 : PySem.W.codeIn K cd2 "number_of" = true) (k2 : PySem.W.keepIn K (.ref f2) = true)
    {f3 : Addr} {od3 an3 : Option Addr} {sl3 : Array (Option Value)} {oc3 kV3 dc3 pm3 cd3 ct3 : Value}
    (a3 : PySem.W.nsIn K mainGlobals "fixed" = some (some (.ref f3))) (l3 : K.lookup f3 = some ⟨oc3, od3, .func (PySem.W.fnOf "fixed" "fixed" (defArgs s_fixed) (defBody s_fixed) (defScope s_fixed) .none kV3 dc3 pm3 an3 cd3 ct3), sl3⟩) (c3 : PySem.W.codeIn K cd3 "fixed" = true) (k3 : PySem.W.keepIn K (.ref f3) = true)
    {f4 : Addr} {od4 an4 : Option Addr} {sl4 : Array (Option Value)} {oc4 kV4 dc4 pm4 cd4 ct4 : Value}
    (a4 : PySem.W.nsIn K mainGlobals "count_bits" = some (some (.ref f4))) (l4 : K.lookup f4 = some ⟨oc4, od4, .func (PySem.W.fnOf "count_bits" "count_bits" (defArgs s_count_bits) (defBody s_count_bits) (defScope s_count_bits) .none kV4 dc4 pm4 an4 cd4 ct4), sl4⟩) (c4 : PySem.W.codeIn K cd4 "count_bits" = true) (k4 : PySem.W.keepIn K (.ref f4) = true)
    {f5 : Addr} {od5 an5 : Option Addr} {sl5 : Array (Option Value)} {oc5 kV5 dc5 pm5 cd5 ct5 : Value}
    (a5 : PySem.W.nsIn K mainGlobals "count_at" = some (some (.ref f5))) (l5 : K.lookup f5 = some ⟨oc5, od5, .func (PySem.W.fnOf "count_at" "count_at" (defArgs s_count_at) (defBody s_count_at) (defScope s_count_at) .none kV5 dc5 pm5 an5 cd5 ct5), sl5⟩) (c5 : PySem.W.codeIn K cd5 "count_at" = true) (k5 : PySem.W.keepIn K (.ref f5) = true)
    {f6 : Addr} {od6 an6 : Option Addr} {sl6 : Array (Option Value)} {oc6 kV6 dc6 pm6 cd6 ct6 : Value}
    (a6 : PySem.W.nsIn K mainGlobals "check_place" = some (some (.ref f6))) (l6 : K.lookup f6 = some ⟨oc6, od6, .func (PySem.W.fnOf "check_place" "check_place" (defArgs s_check_place) (defBody s_check_place) (defScope s_check_place) .none kV6 dc6 pm6 an6 cd6 ct6), sl6⟩) (c6 : PySem.W.codeIn K cd6 "check_place" = true) (k6 : PySem.W.keepIn K (.ref f6) = true)
    {f7 : Addr} {od7 an7 : Option Addr} {sl7 : Array (Option Value)} {oc7 kV7 dc7 pm7 cd7 ct7 : Value}
    (a7 : PySem.W.nsIn K mainGlobals "read_count" = some (some (.ref f7))) (l7 : K.lookup f7 = some ⟨oc7, od7, .func (PySem.W.fnOf "read_count" "read_count" (defArgs s_read_count) (defBody s_read_count) (defScope s_read_count) .none kV7 dc7 pm7 an7 cd7 ct7), sl7⟩) (c7 : PySem.W.codeIn K cd7 "read_count" = true) (k7 : PySem.W.keepIn K (.ref f7) = true)
    {f8 : Addr} {od8 an8 : Option Addr} {sl8 : Array (Option Value)} {oc8 kV8 dc8 pm8 cd8 ct8 : Value}
    (a8 : PySem.W.nsIn K mainGlobals "_law_pool" = some (some (.ref f8))) (l8 : K.lookup f8 = some ⟨oc8, od8, .func (PySem.W.fnOf "_law_pool" "_law_pool" (defArgs s_law_pool) (defBody s_law_pool) (defScope s_law_pool) .none kV8 dc8 pm8 an8 cd8 ct8), sl8⟩) (c8 : PySem.W.codeIn K cd8 "_law_pool" = true) (k8 : PySem.W.keepIn K (.ref f8) = true)
    {f9 : Addr} {od9 an9 : Option Addr} {sl9 : Array (Option Value)} {oc9 kV9 dc9 pm9 cd9 ct9 : Value}
    (a9 : PySem.W.nsIn K mainGlobals "_law_take" = some (some (.ref f9))) (l9 : K.lookup f9 = some ⟨oc9, od9, .func (PySem.W.fnOf "_law_take" "_law_take" (defArgs s_law_take) (defBody s_law_take) (defScope s_law_take) .none kV9 dc9 pm9 an9 cd9 ct9), sl9⟩) (c9 : PySem.W.codeIn K cd9 "_law_take" = true) (k9 : PySem.W.keepIn K (.ref f9) = true)
    {f10 : Addr} {od10 an10 : Option Addr} {sl10 : Array (Option Value)} {oc10 kV10 dc10 pm10 cd10 ct10 : Value}
    (a10 : PySem.W.nsIn K mainGlobals "_law_bits" = some (some (.ref f10))) (l10 : K.lookup f10 = some ⟨oc10, od10, .func (PySem.W.fnOf "_law_bits" "_law_bits" (defArgs s_law_bits) (defBody s_law_bits) (defScope s_law_bits) .none kV10 dc10 pm10 an10 cd10 ct10), sl10⟩) (c10 : PySem.W.codeIn K cd10 "_law_bits" = true) (k10 : PySem.W.keepIn K (.ref f10) = true)
    {f11 : Addr} {od11 an11 : Option Addr} {sl11 : Array (Option Value)} {oc11 kV11 dc11 pm11 cd11 ct11 : Value}
    (a11 : PySem.W.nsIn K mainGlobals "_law_digits" = some (some (.ref f11))) (l11 : K.lookup f11 = some ⟨oc11, od11, .func (PySem.W.fnOf "_law_digits" "_law_digits" (defArgs s_law_digits) (defBody s_law_digits) (defScope s_law_digits) .none kV11 dc11 pm11 an11 cd11 ct11), sl11⟩) (c11 : PySem.W.codeIn K cd11 "_law_digits" = true) (k11 : PySem.W.keepIn K (.ref f11) = true)
    {f12 : Addr} {od12 an12 : Option Addr} {sl12 : Array (Option Value)} {oc12 kV12 dc12 pm12 cd12 ct12 : Value}
    (a12 : PySem.W.nsIn K mainGlobals "_law_are_bits" = some (some (.ref f12))) (l12 : K.lookup f12 = some ⟨oc12, od12, .func (PySem.W.fnOf "_law_are_bits" "_law_are_bits" (defArgs s_law_are_bits) (defBody s_law_are_bits) (defScope s_law_are_bits) .none kV12 dc12 pm12 an12 cd12 ct12), sl12⟩) (c12 : PySem.W.codeIn K cd12 "_law_are_bits" = true) (k12 : PySem.W.keepIn K (.ref f12) = true)
    {f13 : Addr} {od13 an13 : Option Addr} {sl13 : Array (Option Value)} {oc13 kV13 dc13 pm13 cd13 ct13 : Value}
    (a13 : PySem.W.nsIn K mainGlobals "_law_count" = some (some (.ref f13))) (l13 : K.lookup f13 = some ⟨oc13, od13, .func (PySem.W.fnOf "_law_count" "_law_count" (defArgs s_law_count) (defBody s_law_count) (defScope s_law_count) .none kV13 dc13 pm13 an13 cd13 ct13), sl13⟩) (c13 : PySem.W.codeIn K cd13 "_law_count" = true) (k13 : PySem.W.keepIn K (.ref f13) = true)
    {f14 : Addr} {od14 an14 : Option Addr} {sl14 : Array (Option Value)} {oc14 kV14 dc14 pm14 cd14 ct14 : Value}
    (a14 : PySem.W.nsIn K mainGlobals "_law_code" = some (some (.ref f14))) (l14 : K.lookup f14 = some ⟨oc14, od14, .func (PySem.W.fnOf "_law_code" "_law_code" (defArgs s_law_code) (defBody s_law_code) (defScope s_law_code) .none kV14 dc14 pm14 an14 cd14 ct14), sl14⟩) (c14 : PySem.W.codeIn K cd14 "_law_code" = true) (k14 : PySem.W.keepIn K (.ref f14) = true)
    {f15 : Addr} {od15 an15 : Option Addr} {sl15 : Array (Option Value)} {oc15 kV15 dc15 pm15 cd15 ct15 : Value}
    (a15 : PySem.W.nsIn K mainGlobals "_law_word" = some (some (.ref f15))) (l15 : K.lookup f15 = some ⟨oc15, od15, .func (PySem.W.fnOf "_law_word" "_law_word" (defArgs s_law_word) (defBody s_law_word) (defScope s_law_word) .none kV15 dc15 pm15 an15 cd15 ct15), sl15⟩) (c15 : PySem.W.codeIn K cd15 "_law_word" = true) (k15 : PySem.W.keepIn K (.ref f15) = true)
    {f16 : Addr} {od16 an16 : Option Addr} {sl16 : Array (Option Value)} {oc16 kV16 dc16 pm16 cd16 ct16 : Value}
    (a16 : PySem.W.nsIn K mainGlobals "_law_fixed_right" = some (some (.ref f16))) (l16 : K.lookup f16 = some ⟨oc16, od16, .func (PySem.W.fnOf "_law_fixed_right" "_law_fixed_right" (defArgs s_law_fixed_right) (defBody s_law_fixed_right) (defScope s_law_fixed_right) .none kV16 dc16 pm16 an16 cd16 ct16), sl16⟩) (c16 : PySem.W.codeIn K cd16 "_law_fixed_right" = true) (k16 : PySem.W.keepIn K (.ref f16) = true)
    {f17 : Addr} {od17 an17 : Option Addr} {sl17 : Array (Option Value)} {oc17 kV17 dc17 pm17 cd17 ct17 : Value}
    (a17 : PySem.W.nsIn K mainGlobals "_law_read_right" = some (some (.ref f17))) (l17 : K.lookup f17 = some ⟨oc17, od17, .func (PySem.W.fnOf "_law_read_right" "_law_read_right" (defArgs s_law_read_right) (defBody s_law_read_right) (defScope s_law_read_right) .none kV17 dc17 pm17 an17 cd17 ct17), sl17⟩) (c17 : PySem.W.codeIn K cd17 "_law_read_right" = true) (k17 : PySem.W.keepIn K (.ref f17) = true)
    {f18 : Addr} {od18 an18 : Option Addr} {sl18 : Array (Option Value)} {oc18 kV18 dc18 pm18 cd18 ct18 : Value}
    (a18 : PySem.W.nsIn K mainGlobals "law" = some (some (.ref f18))) (l18 : K.lookup f18 = some ⟨oc18, od18, .func (PySem.W.fnOf "law" "law" (defArgs s_law) (defBody s_law) (defScope s_law) .none kV18 dc18 pm18 an18 cd18 ct18), sl18⟩) (c18 : PySem.W.codeIn K cd18 "law" = true) (k18 : PySem.W.keepIn K (.ref f18) = true)
    (z_bool : PySem.W.nsIn K mainGlobals "bool" = some none)
    (z_int : PySem.W.nsIn K mainGlobals "int" = some none)
    (z_isinstance : PySem.W.nsIn K mainGlobals "isinstance" = some none)
    (z_len : PySem.W.nsIn K mainGlobals "len" = some none)
    (z_list : PySem.W.nsIn K mainGlobals "list" = some none)
    (z_max : PySem.W.nsIn K mainGlobals "max" = some none)
    (z_min : PySem.W.nsIn K mainGlobals "min" = some none)
    (z_range : PySem.W.nsIn K mainGlobals "range" = some none)
    {t_MOST_COUNT : Tok} (e_MOST_COUNT : PySem.W.nsIn K mainGlobals "MOST_COUNT" = some (some (.int (2199023255550) t_MOST_COUNT)))
    {t_MOST_ZEROS : Tok} (e_MOST_ZEROS : PySem.W.nsIn K mainGlobals "MOST_ZEROS" = some (some (.int (40) t_MOST_ZEROS)))
    {C_BadBits : Addr} (g_BadBits : PySem.W.nsIn K mainGlobals "BadBits" = some (some (.ref C_BadBits))) (x0_BadBits : PySem.W.excIn K C_BadBits [.type "ValueError", .type "Exception", .type "BaseException", .type "object"] "ValueError.__new__" = true)
    (x1_BadBits : PySem.W.keepIn K (.ref C_BadBits) = true) (x2_BadBits : PySem.W.subIn K (.ref C_BadBits) (.type "BaseException") = some true) (x3_BadBits : PySem.W.typeIn K (.ref C_BadBits) = some (.type "type"))
    (x4_BadBits : PySem.W.findIn K (.ref C_BadBits) "__getattribute__" = some (some (.builtin "BaseException.__getattribute__"))) (x5_BadBits : PySem.W.findIn K (.ref C_BadBits) "__getattr__" = some none) (x6_BadBits : PySem.W.hasDictIn K C_BadBits = true)
    (x7_BadBits : PySem.W.findIn K (.ref C_BadBits) "__class__" = some (some (.builtin "object.__class__"))) (x8_BadBits : PySem.W.specialIn K (.builtin "object.__class__") "__get__" = some (some (.builtin "getset_descriptor.__get__"))) (x9_BadBits : PySem.W.takesIn K (.builtin "object.__class__") = some true) (xa_BadBits : PySem.W.mroIn K C_BadBits (.type "object") = some true)
    {C_Great : Addr} (g_Great : PySem.W.nsIn K mainGlobals "Great" = some (some (.ref C_Great))) (x0_Great : PySem.W.excIn K C_Great [.type "ValueError", .type "Exception", .type "BaseException", .type "object"] "ValueError.__new__" = true)
    (x1_Great : PySem.W.keepIn K (.ref C_Great) = true) (x2_Great : PySem.W.subIn K (.ref C_Great) (.type "BaseException") = some true) (x3_Great : PySem.W.typeIn K (.ref C_Great) = some (.type "type"))
    (x4_Great : PySem.W.findIn K (.ref C_Great) "__getattribute__" = some (some (.builtin "BaseException.__getattribute__"))) (x5_Great : PySem.W.findIn K (.ref C_Great) "__getattr__" = some none) (x6_Great : PySem.W.hasDictIn K C_Great = true)
    (x7_Great : PySem.W.findIn K (.ref C_Great) "__class__" = some (some (.builtin "object.__class__"))) (x8_Great : PySem.W.specialIn K (.builtin "object.__class__") "__get__" = some (some (.builtin "getset_descriptor.__get__"))) (x9_Great : PySem.W.takesIn K (.builtin "object.__class__") = some true) (xa_Great : PySem.W.mroIn K C_Great (.type "object") = some true)
    {C_NarrowError : Addr} (g_NarrowError : PySem.W.nsIn K mainGlobals "NarrowError" = some (some (.ref C_NarrowError))) (x0_NarrowError : PySem.W.excIn K C_NarrowError [.type "ValueError", .type "Exception", .type "BaseException", .type "object"] "ValueError.__new__" = true)
    (x1_NarrowError : PySem.W.keepIn K (.ref C_NarrowError) = true) (x2_NarrowError : PySem.W.subIn K (.ref C_NarrowError) (.type "BaseException") = some true) (x3_NarrowError : PySem.W.typeIn K (.ref C_NarrowError) = some (.type "type"))
    (x4_NarrowError : PySem.W.findIn K (.ref C_NarrowError) "__getattribute__" = some (some (.builtin "BaseException.__getattribute__"))) (x5_NarrowError : PySem.W.findIn K (.ref C_NarrowError) "__getattr__" = some none) (x6_NarrowError : PySem.W.hasDictIn K C_NarrowError = true)
    (x7_NarrowError : PySem.W.findIn K (.ref C_NarrowError) "__class__" = some (some (.builtin "object.__class__"))) (x8_NarrowError : PySem.W.specialIn K (.builtin "object.__class__") "__get__" = some (some (.builtin "getset_descriptor.__get__"))) (x9_NarrowError : PySem.W.takesIn K (.builtin "object.__class__") = some true) (xa_NarrowError : PySem.W.mroIn K C_NarrowError (.type "object") = some true)
    {C_Outside : Addr} (g_Outside : PySem.W.nsIn K mainGlobals "Outside" = some (some (.ref C_Outside))) (x0_Outside : PySem.W.excIn K C_Outside [.type "ValueError", .type "Exception", .type "BaseException", .type "object"] "ValueError.__new__" = true)
    (x1_Outside : PySem.W.keepIn K (.ref C_Outside) = true) (x2_Outside : PySem.W.subIn K (.ref C_Outside) (.type "BaseException") = some true) (x3_Outside : PySem.W.typeIn K (.ref C_Outside) = some (.type "type"))
    (x4_Outside : PySem.W.findIn K (.ref C_Outside) "__getattribute__" = some (some (.builtin "BaseException.__getattribute__"))) (x5_Outside : PySem.W.findIn K (.ref C_Outside) "__getattr__" = some none) (x6_Outside : PySem.W.hasDictIn K C_Outside = true)
    (x7_Outside : PySem.W.findIn K (.ref C_Outside) "__class__" = some (some (.builtin "object.__class__"))) (x8_Outside : PySem.W.specialIn K (.builtin "object.__class__") "__get__" = some (some (.builtin "getset_descriptor.__get__"))) (x9_Outside : PySem.W.takesIn K (.builtin "object.__class__") = some true) (xa_Outside : PySem.W.mroIn K C_Outside (.type "object") = some true)
    (s_BadBits_BadBits : PySem.W.subIn K (.ref C_BadBits) (.ref C_BadBits) = some true)
    (s_BadBits_Great : PySem.W.subIn K (.ref C_BadBits) (.ref C_Great) = some false)
    (s_BadBits_NarrowError : PySem.W.subIn K (.ref C_BadBits) (.ref C_NarrowError) = some true)
    (s_BadBits_Outside : PySem.W.subIn K (.ref C_BadBits) (.ref C_Outside) = some false)
    (s_Great_BadBits : PySem.W.subIn K (.ref C_Great) (.ref C_BadBits) = some false)
    (s_Great_Great : PySem.W.subIn K (.ref C_Great) (.ref C_Great) = some true)
    (s_Great_NarrowError : PySem.W.subIn K (.ref C_Great) (.ref C_NarrowError) = some true)
    (s_Great_Outside : PySem.W.subIn K (.ref C_Great) (.ref C_Outside) = some false)
    (s_NarrowError_BadBits : PySem.W.subIn K (.ref C_NarrowError) (.ref C_BadBits) = some false)
    (s_NarrowError_Great : PySem.W.subIn K (.ref C_NarrowError) (.ref C_Great) = some false)
    (s_NarrowError_NarrowError : PySem.W.subIn K (.ref C_NarrowError) (.ref C_NarrowError) = some true)
    (s_NarrowError_Outside : PySem.W.subIn K (.ref C_NarrowError) (.ref C_Outside) = some false)
    (s_Outside_BadBits : PySem.W.subIn K (.ref C_Outside) (.ref C_BadBits) = some false)
    (s_Outside_Great : PySem.W.subIn K (.ref C_Outside) (.ref C_Great) = some false)
    (s_Outside_NarrowError : PySem.W.subIn K (.ref C_Outside) (.ref C_NarrowError) = some true)
    (s_Outside_Outside : PySem.W.subIn K (.ref C_Outside) (.ref C_Outside) = some true)
    {c_law_fixed_right P_law_fixed_right : Addr} {e_law_fixed_right : Value} {dd_law_fixed_right : Option Addr} {vs_law_fixed_right : Array Value} {so_law_fixed_right : Array (Option Value)} (cd_law_fixed_right : cd16 = .ref c_law_fixed_right) (lc_law_fixed_right : K.lookup c_law_fixed_right = some ⟨e_law_fixed_right, dd_law_fixed_right, .fields vs_law_fixed_right, so_law_fixed_right⟩) (vp_law_fixed_right : vs_law_fixed_right[11]? = some (.ref P_law_fixed_right)) (np_law_fixed_right : K.lookup P_law_fixed_right = none) (ch_law_fixed_right : PySem.W.codeHdIn K c_law_fixed_right P_law_fixed_right = true) (em_law_fixed_right : h.get? P_law_fixed_right = some { cls := .none, data := .fields #[] })
    {c_law P_law : Addr} {e_law : Value} {dd_law : Option Addr} {vs_law : Array Value} {so_law : Array (Option Value)} (cd_law : cd18 = .ref c_law) (lc_law : K.lookup c_law = some ⟨e_law, dd_law, .fields vs_law, so_law⟩) (vp_law : vs_law[11]? = some (.ref P_law)) (np_law : K.lookup P_law = none) (ch_law : PySem.W.codeHdIn K c_law P_law = true) (em_law : h.get? P_law = some { cls := .none, data := .fields #[] })
    (df_law_fixed_right_law : P_law_fixed_right ≠ P_law)
    (df_law_law_fixed_right : P_law ≠ P_law_fixed_right)
    : LamX.LawAtS l w K (L2.CX l.prog w) 6 63 "_law_script" mg fa h := by
  have e := hfa.symm.trans (PySem.W.mg_of X G a18)
  cases e
  subst cd_law_fixed_right
  subst cd_law
  have e_BadBits := exA_of (PySem.W.mg_of X G g_BadBits)
  have e_Great := exA_of (PySem.W.mg_of X G g_Great)
  have e_NarrowError := exA_of (PySem.W.mg_of X G g_NarrowError)
  have e_Outside := exA_of (PySem.W.mg_of X G g_Outside)
  have Z : Zs K mg := ⟨PySem.W.mg_none_of X G z_bool, PySem.W.mg_none_of X G z_int, PySem.W.mg_none_of X G z_isinstance, PySem.W.mg_none_of X G z_len, PySem.W.mg_none_of X G z_list, PySem.W.mg_none_of X G z_max, PySem.W.mg_none_of X G z_min, PySem.W.mg_none_of X G z_range, ⟨_, PySem.W.mg_of X G e_MOST_COUNT⟩, ⟨_, PySem.W.mg_of X G e_MOST_ZEROS⟩, ExF.mk' (PySem.W.mg_of X G g_BadBits) x0_BadBits x1_BadBits x2_BadBits x3_BadBits x4_BadBits x5_BadBits x6_BadBits x7_BadBits x8_BadBits x9_BadBits xa_BadBits, ExF.mk' (PySem.W.mg_of X G g_Great) x0_Great x1_Great x2_Great x3_Great x4_Great x5_Great x6_Great x7_Great x8_Great x9_Great xa_Great, ExF.mk' (PySem.W.mg_of X G g_NarrowError) x0_NarrowError x1_NarrowError x2_NarrowError x3_NarrowError x4_NarrowError x5_NarrowError x6_NarrowError x7_NarrowError x8_NarrowError x9_NarrowError xa_NarrowError, ExF.mk' (PySem.W.mg_of X G g_Outside) x0_Outside x1_Outside x2_Outside x3_Outside x4_Outside x5_Outside x6_Outside x7_Outside x8_Outside x9_Outside xa_Outside, (by rw [e_BadBits]; exact s_BadBits_BadBits), (by rw [e_BadBits]; exact kit_own x6_BadBits x3_BadBits s_BadBits_BadBits s_BadBits_BadBits), (by rw [e_BadBits, e_Great]; exact s_BadBits_Great), (by rw [e_BadBits, e_Great]; exact kit_own x6_Great x3_Great s_BadBits_Great s_BadBits_BadBits), (by rw [e_BadBits, e_NarrowError]; exact s_BadBits_NarrowError), (by rw [e_BadBits, e_NarrowError]; exact kit_own x6_NarrowError x3_NarrowError s_BadBits_NarrowError s_BadBits_BadBits), (by rw [e_BadBits, e_Outside]; exact s_BadBits_Outside), (by rw [e_BadBits, e_Outside]; exact kit_own x6_Outside x3_Outside s_BadBits_Outside s_BadBits_BadBits), (by rw [e_Great, e_BadBits]; exact s_Great_BadBits), (by rw [e_Great, e_BadBits]; exact kit_own x6_BadBits x3_BadBits s_Great_BadBits s_Great_Great), (by rw [e_Great]; exact s_Great_Great), (by rw [e_Great]; exact kit_own x6_Great x3_Great s_Great_Great s_Great_Great), (by rw [e_Great, e_NarrowError]; exact s_Great_NarrowError), (by rw [e_Great, e_NarrowError]; exact kit_own x6_NarrowError x3_NarrowError s_Great_NarrowError s_Great_Great), (by rw [e_Great, e_Outside]; exact s_Great_Outside), (by rw [e_Great, e_Outside]; exact kit_own x6_Outside x3_Outside s_Great_Outside s_Great_Great), (by rw [e_NarrowError, e_BadBits]; exact s_NarrowError_BadBits), (by rw [e_NarrowError, e_BadBits]; exact kit_own x6_BadBits x3_BadBits s_NarrowError_BadBits s_NarrowError_NarrowError), (by rw [e_NarrowError, e_Great]; exact s_NarrowError_Great), (by rw [e_NarrowError, e_Great]; exact kit_own x6_Great x3_Great s_NarrowError_Great s_NarrowError_NarrowError), (by rw [e_NarrowError]; exact s_NarrowError_NarrowError), (by rw [e_NarrowError]; exact kit_own x6_NarrowError x3_NarrowError s_NarrowError_NarrowError s_NarrowError_NarrowError), (by rw [e_NarrowError, e_Outside]; exact s_NarrowError_Outside), (by rw [e_NarrowError, e_Outside]; exact kit_own x6_Outside x3_Outside s_NarrowError_Outside s_NarrowError_NarrowError), (by rw [e_Outside, e_BadBits]; exact s_Outside_BadBits), (by rw [e_Outside, e_BadBits]; exact kit_own x6_BadBits x3_BadBits s_Outside_BadBits s_Outside_Outside), (by rw [e_Outside, e_Great]; exact s_Outside_Great), (by rw [e_Outside, e_Great]; exact kit_own x6_Great x3_Great s_Outside_Great s_Outside_Outside), (by rw [e_Outside, e_NarrowError]; exact s_Outside_NarrowError), (by rw [e_Outside, e_NarrowError]; exact kit_own x6_NarrowError x3_NarrowError s_Outside_NarrowError s_Outside_Outside), (by rw [e_Outside]; exact s_Outside_Outside), (by rw [e_Outside]; exact kit_own x6_Outside x3_Outside s_Outside_Outside s_Outside_Outside)⟩
  have F0 := fun_mk (st := s_is_bit) l0 c0 k0
  have F1 := fun_mk (st := s_check_bits) l1 c1 k1
  have F2 := fun_mk (st := s_number_of) l2 c2 k2
  have F3 := fun_mk (st := s_fixed) l3 c3 k3
  have F4 := fun_mk (st := s_count_bits) l4 c4 k4
  have F5 := fun_mk (st := s_count_at) l5 c5 k5
  have F6 := fun_mk (st := s_check_place) l6 c6 k6
  have F7 := fun_mk (st := s_read_count) l7 c7 k7
  have F8 := fun_mk (st := s_law_pool) l8 c8 k8
  have F9 := fun_mk (st := s_law_take) l9 c9 k9
  have F10 := fun_mk (st := s_law_bits) l10 c10 k10
  have F11 := fun_mk (st := s_law_digits) l11 c11 k11
  have F12 := fun_mk (st := s_law_are_bits) l12 c12 k12
  have F13 := fun_mk (st := s_law_count) l13 c13 k13
  have F14 := fun_mk (st := s_law_code) l14 c14 k14
  have F15 := fun_mk (st := s_law_word) l15 c15 k15
  have F16 := fun_mk (st := s_law_fixed_right) l16 c16 k16
  have F17 := fun_mk (st := s_law_read_right) l17 c17 k17
  have F18 := fun_mk (st := s_law) l18 c18 k18
  have hT : ∀ p ∈ ([(c_law_fixed_right, P_law_fixed_right), (c_law, P_law)] : List (Addr × Addr)), PySem.W.CodeHd h p.1 p.2 ∧ h.get? p.2 = some { cls := .none, data := .fields #[] } := by
    intro p hp
    simp only [List.mem_cons, List.not_mem_nil, or_false] at hp
    rcases hp with rfl | rfl
    · exact ⟨PySem.W.codeHd_of_K X ch_law_fixed_right, em_law_fixed_right⟩
    · exact ⟨PySem.W.codeHd_of_K X ch_law, em_law⟩
  have hN : ∀ p ∈ ([(c_law_fixed_right, P_law_fixed_right), (c_law, P_law)] : List (Addr × Addr)), K.lookup p.2 = none := by
    intro p hp
    simp only [List.mem_cons, List.not_mem_nil, or_false] at hp
    rcases hp with rfl | rfl
    · exact np_law_fixed_right
    · exact np_law
  refine ⟨PySem.W.fnOf "law" "law" (defArgs s_law) (defBody s_law) (defScope s_law) .none kV18 dc18 pm18 an18 (.ref c_law) ct18, [(c_law_fixed_right, P_law_fixed_right), (c_law, P_law)], sp_law [(P_law_fixed_right, qLam "_law_fixed_right"), (P_law, qLam "law")] K mg, fun p hp => (hT p hp).2, hN, fun p hp => (hT p hp).1, fun s v => .of_eq rfl, fun H a ns hl _ hH hS => law_start hl (fun t ht => ?_) hS, fun base _ _ hB => ?_⟩
  · simp only [List.mem_cons, List.not_mem_nil, or_false] at ht
    rcases ht with rfl | rfl
    · exact hH (c_law_fixed_right, P_law_fixed_right) (.head _)
    · exact hH (c_law, P_law) (.tail _ (.head _))
  have R_law_word : OkG K mg "_law_word" "_law_call" s_law_word ["_law_call", "_law_told", "e"] := ⟨_, _, F15, PySem.W.mg_of X G a15, F15.binds fun _ _ _ _ _ _ us hl => (match us, hl with | [_], _ => rfl), sc_law_word⟩
  have R_fixed : Ok_fixed l.prog w K mg base := ⟨_, _, okx_fixed Z F3 (PySem.W.mg_of X G a3) ⟩
  have R_count_bits : Ok_count_bits l.prog w K mg base := ⟨_, _, okx_count_bits Z F4 (PySem.W.mg_of X G a4) R_fixed⟩
  have R_law_take : Ok_law_take l.prog w K mg base := ⟨_, _, okx_law_take Z F9 (PySem.W.mg_of X G a9) ⟩
  have R_law_are_bits : Ok_law_are_bits l.prog w K mg base := ⟨_, _, okx_law_are_bits Z F12 (PySem.W.mg_of X G a12) ⟩
  have R_law_digits : Ok_law_digits l.prog w K mg base := ⟨_, _, okx_law_digits Z F11 (PySem.W.mg_of X G a11) ⟩
  have R_law_bits : Ok_law_bits l.prog w K mg base := ⟨_, _, okx_law_bits Z F10 (PySem.W.mg_of X G a10) R_law_take⟩
  have R_law_fixed_right : Ok_law_fixed_right [(P_law_fixed_right, qLam "_law_fixed_right"), (P_law, qLam "law")] l.prog w K mg base := ⟨_, _, okx_law_fixed_right (T := [(P_law_fixed_right, qLam "_law_fixed_right"), (P_law, qLam "law")]) Z F16 (PySem.W.mg_of X G a16) (hB (c_law_fixed_right, P_law_fixed_right) (.head _)) rfl (.head _) (by
      intro p hp e
      simp only [List.mem_cons, List.not_mem_nil, or_false] at hp
      rcases hp with rfl | rfl
      · exact rfl
      · exact absurd e df_law_law_fixed_right) R_fixed R_law_word R_law_are_bits R_law_digits R_law_take R_law_bits⟩
  have R_number_of : Ok_number_of l.prog w K mg base := ⟨_, _, okx_number_of Z F2 (PySem.W.mg_of X G a2) ⟩
  have R_count_at : Ok_count_at l.prog w K mg base := ⟨_, _, okx_count_at Z F5 (PySem.W.mg_of X G a5) R_number_of⟩
  have R_is_bit : Ok_is_bit l.prog w K mg base := ⟨_, _, okx_is_bit Z F0 (PySem.W.mg_of X G a0) ⟩
  have R_check_bits : Ok_check_bits l.prog w K mg base := ⟨_, _, okx_check_bits Z F1 (PySem.W.mg_of X G a1) R_is_bit⟩
  have R_check_place : Ok_check_place l.prog w K mg base := ⟨_, _, okx_check_place Z F6 (PySem.W.mg_of X G a6) R_check_bits⟩
  have R_read_count : Ok_read_count l.prog w K mg base := ⟨_, _, okx_read_count Z F7 (PySem.W.mg_of X G a7) R_count_at R_check_place⟩
  have R_law_code : Ok_law_code l.prog w K mg base := ⟨_, _, okx_law_code Z F14 (PySem.W.mg_of X G a14) R_law_digits⟩
  have R_law_count : Ok_law_count l.prog w K mg base := ⟨_, _, okx_law_count Z F13 (PySem.W.mg_of X G a13) R_law_take⟩
  have R_law_read_right : Ok_law_read_right l.prog w K mg base := ⟨_, _, okx_law_read_right Z F17 (PySem.W.mg_of X G a17) R_read_count R_count_bits R_law_are_bits R_law_bits R_law_code R_law_count⟩
  have R_law_pool : Ok_law_pool l.prog w K mg base := ⟨_, _, okx_law_pool Z F8 (PySem.W.mg_of X G a8) ⟩
  exact (okx_law (T := [(P_law_fixed_right, qLam "_law_fixed_right"), (P_law, qLam "law")]) (P := l.prog) (w := w) (base := base) Z F18 (PySem.W.mg_of X G a18) (hB (c_law, P_law) (.tail _ (.head _))) rfl (.tail _ (.head _)) (by
      intro p hp e
      simp only [List.mem_cons, List.not_mem_nil, or_false] at hp
      rcases hp with rfl | rfl
      · exact absurd e df_law_fixed_right_law
      · exact rfl) R_law_word R_count_bits R_law_take R_law_fixed_right R_law_read_right R_law_pool).G
theorem walk {l : PySem.W.OpenLaw} {q : Program} {loose : List Str} {XP : (Str → Option Value) → Heap → Prop} {YP : World → Heap → Prop} {d : DefRec} {K : Params → PySem.W.Frag} (hn : l.most = some 63) (hdf : d.params.defaults = [])
    (hY : ∀ (w : World) (h : Heap), YP w h → (K w.params).In h)
    (F : ∀ (w : World) (mg : Str → Option Value) (fa : Addr) (h : Heap), YP w h → (K w.params).In h → h.Ns mainGlobals mg → mg d.name = some (.ref fa) → LamX.LawAtS l w (K w.params) (L2.CX l.prog w) 6 63 "_law_script" mg fa h) :
    PySem.W.WalkO q loose XP YP l.row.toRowW d [] (fun f vs => PySem.call f vs) :=
  LamX.walk_ofTs (n := 63) (k := 6) (x := "_law_script") (CX := fun w => L2.CX l.prog w) hn (by decide) hdf ⟨rfl, by decide, by decide⟩ hY F fun _ _ _ _ _ z => cx_none z
end NB
open PySem PySem.W PyProof.Rows in
set_option maxRecDepth 100000 in
set_option maxHeartbeats 0 in
theorem PySem.Challenge.cw_narrowingbits_k00_counts_read_back_holds : PySem.Challenge.rw_narrowingbits_k00_counts_read_back.Holds := by
  w_on; o_law; k_head; (case hw => w_witness2)
  k_fill
  refine NB.walk (l := PySem.Challenge.rw_narrowingbits_k00_counts_read_back) rfl rfl (fun w h Y => PySem.W.km_in_of Y) ?F
  case F =>
    intro w mg fa h Y KX G hmg
    refine' NB.all_mk KX G hmg ?a0 ?l0 ?c0 ?k0 ?a1 ?l1 ?c1 ?k1 ?a2 ?l2 ?c2 ?k2 ?a3 ?l3 ?c3 ?k3 ?a4 ?l4 ?c4 ?k4 ?a5 ?l5 ?c5 ?k5 ?a6 ?l6 ?c6 ?k6 ?a7 ?l7 ?c7 ?k7 ?a8 ?l8 ?c8 ?k8 ?a9 ?l9 ?c9 ?k9 ?a10 ?l10 ?c10 ?k10 ?a11 ?l11 ?c11 ?k11 ?a12 ?l12 ?c12 ?k12 ?a13 ?l13 ?c13 ?k13 ?a14 ?l14 ?c14 ?k14 ?a15 ?l15 ?c15 ?k15 ?a16 ?l16 ?c16 ?k16 ?a17 ?l17 ?c17 ?k17 ?a18 ?l18 ?c18 ?k18 ?z_bool ?z_int ?z_isinstance ?z_len ?z_list ?z_max ?z_min ?z_range ?e_MOST_COUNT ?e_MOST_ZEROS ?g_BadBits ?x0_BadBits ?x1_BadBits ?x2_BadBits ?x3_BadBits ?x4_BadBits ?x5_BadBits ?x6_BadBits ?x7_BadBits ?x8_BadBits ?x9_BadBits ?xa_BadBits ?g_Great ?x0_Great ?x1_Great ?x2_Great ?x3_Great ?x4_Great ?x5_Great ?x6_Great ?x7_Great ?x8_Great ?x9_Great ?xa_Great ?g_NarrowError ?x0_NarrowError ?x1_NarrowError ?x2_NarrowError ?x3_NarrowError ?x4_NarrowError ?x5_NarrowError ?x6_NarrowError ?x7_NarrowError ?x8_NarrowError ?x9_NarrowError ?xa_NarrowError ?g_Outside ?x0_Outside ?x1_Outside ?x2_Outside ?x3_Outside ?x4_Outside ?x5_Outside ?x6_Outside ?x7_Outside ?x8_Outside ?x9_Outside ?xa_Outside ?s_BadBits_BadBits ?s_BadBits_Great ?s_BadBits_NarrowError ?s_BadBits_Outside ?s_Great_BadBits ?s_Great_Great ?s_Great_NarrowError ?s_Great_Outside ?s_NarrowError_BadBits ?s_NarrowError_Great ?s_NarrowError_NarrowError ?s_NarrowError_Outside ?s_Outside_BadBits ?s_Outside_Great ?s_Outside_NarrowError ?s_Outside_Outside ?cd_law_fixed_right ?lc_law_fixed_right ?vp_law_fixed_right ?np_law_fixed_right ?ch_law_fixed_right ?em_law_fixed_right ?cd_law ?lc_law ?vp_law ?np_law ?ch_law ?em_law ?df_law_fixed_right_law ?df_law_law_fixed_right
    (case a0 => k_is)
    (case l0 => k_is)
    (case c0 => k_is)
    (case k0 => k_is)
    (case a1 => k_is)
    (case l1 => k_is)
    (case c1 => k_is)
    (case k1 => k_is)
    (case a2 => k_is)
    (case l2 => k_is)
    (case c2 => k_is)
    (case k2 => k_is)
    (case a3 => k_is)
    (case l3 => k_is)
    (case c3 => k_is)
    (case k3 => k_is)
    (case a4 => k_is)
    (case l4 => k_is)
    (case c4 => k_is)
    (case k4 => k_is)
    (case a5 => k_is)
    (case l5 => k_is)
    (case c5 => k_is)
    (case k5 => k_is)
    (case a6 => k_is)
    (case l6 => k_is)
    (case c6 => k_is)
    (case k6 => k_is)
    (case a7 => k_is)
    (case l7 => k_is)
    (case c7 => k_is)
    (case k7 => k_is)
    (case a8 => k_is)
    (case l8 => k_is)
    (case c8 => k_is)
    (case k8 => k_is)
    (case a9 => k_is)
    (case l9 => k_is)
    (case c9 => k_is)
    (case k9 => k_is)
    (case a10 => k_is)
    (case l10 => k_is)
    (case c10 => k_is)
    (case k10 => k_is)
    (case a11 => k_is)
    (case l11 => k_is)
    (case c11 => k_is)
    (case k11 => k_is)
    (case a12 => k_is)
    (case l12 => k_is)
    (case c12 => k_is)
    (case k12 => k_is)
    (case a13 => k_is)
    (case l13 => k_is)
    (case c13 => k_is)
    (case k13 => k_is)
    (case a14 => k_is)
    (case l14 => k_is)
    (case c14 => k_is)
    (case k14 => k_is)
    (case a15 => k_is)
    (case l15 => k_is)
    (case c15 => k_is)
    (case k15 => k_is)
    (case a16 => k_is)
    (case l16 => k_is)
    (case c16 => k_is)
    (case k16 => k_is)
    (case a17 => k_is)
    (case l17 => k_is)
    (case c17 => k_is)
    (case k17 => k_is)
    (case a18 => k_is)
    (case l18 => k_is)
    (case c18 => k_is)
    (case k18 => k_is)
    (case z_bool => k_is)
    (case z_int => k_is)
    (case z_isinstance => k_is)
    (case z_len => k_is)
    (case z_list => k_is)
    (case z_max => k_is)
    (case z_min => k_is)
    (case z_range => k_is)
    (case e_MOST_COUNT => k_is)
    (case e_MOST_ZEROS => k_is)
    (case g_BadBits => k_is)
    (case x0_BadBits => k_exc)
    (case x1_BadBits => k_is)
    (case x2_BadBits => k_is)
    (case x3_BadBits => k_is)
    (case x4_BadBits => k_is)
    (case x5_BadBits => k_is)
    (case x6_BadBits => k_is)
    (case x7_BadBits => k_is)
    (case x8_BadBits => k_is)
    (case x9_BadBits => k_is)
    (case xa_BadBits => k_is)
    (case g_Great => k_is)
    (case x0_Great => k_exc)
    (case x1_Great => k_is)
    (case x2_Great => k_is)
    (case x3_Great => k_is)
    (case x4_Great => k_is)
    (case x5_Great => k_is)
    (case x6_Great => k_is)
    (case x7_Great => k_is)
    (case x8_Great => k_is)
    (case x9_Great => k_is)
    (case xa_Great => k_is)
    (case g_NarrowError => k_is)
    (case x0_NarrowError => k_exc)
    (case x1_NarrowError => k_is)
    (case x2_NarrowError => k_is)
    (case x3_NarrowError => k_is)
    (case x4_NarrowError => k_is)
    (case x5_NarrowError => k_is)
    (case x6_NarrowError => k_is)
    (case x7_NarrowError => k_is)
    (case x8_NarrowError => k_is)
    (case x9_NarrowError => k_is)
    (case xa_NarrowError => k_is)
    (case g_Outside => k_is)
    (case x0_Outside => k_exc)
    (case x1_Outside => k_is)
    (case x2_Outside => k_is)
    (case x3_Outside => k_is)
    (case x4_Outside => k_is)
    (case x5_Outside => k_is)
    (case x6_Outside => k_is)
    (case x7_Outside => k_is)
    (case x8_Outside => k_is)
    (case x9_Outside => k_is)
    (case xa_Outside => k_is)
    (case s_BadBits_BadBits => first | rfl | k_is)
    (case s_BadBits_Great => first | rfl | k_is)
    (case s_BadBits_NarrowError => first | rfl | k_is)
    (case s_BadBits_Outside => first | rfl | k_is)
    (case s_Great_BadBits => first | rfl | k_is)
    (case s_Great_Great => first | rfl | k_is)
    (case s_Great_NarrowError => first | rfl | k_is)
    (case s_Great_Outside => first | rfl | k_is)
    (case s_NarrowError_BadBits => first | rfl | k_is)
    (case s_NarrowError_Great => first | rfl | k_is)
    (case s_NarrowError_NarrowError => first | rfl | k_is)
    (case s_NarrowError_Outside => first | rfl | k_is)
    (case s_Outside_BadBits => first | rfl | k_is)
    (case s_Outside_Great => first | rfl | k_is)
    (case s_Outside_NarrowError => first | rfl | k_is)
    (case s_Outside_Outside => first | rfl | k_is)
    (case cd_law_fixed_right => rfl)
    (case lc_law_fixed_right => k_is)
    (case vp_law_fixed_right => rfl)
    (case np_law_fixed_right => kernel_rfl)
    (case ch_law_fixed_right => kernel_rfl)
    (case em_law_fixed_right => exact PySem.W.km_tabs_of Y _ (by simp))
    (case cd_law => rfl)
    (case lc_law => k_is)
    (case vp_law => rfl)
    (case np_law => kernel_rfl)
    (case ch_law => kernel_rfl)
    (case em_law => exact PySem.W.km_tabs_of Y _ (by simp))
    (case df_law_fixed_right_law => decide)
    (case df_law_law_fixed_right => decide)
#print axioms PySem.Challenge.cw_narrowingbits_k00_counts_read_back_holds
