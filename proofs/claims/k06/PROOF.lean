import PyProof.Rows.All
import Wide.All
import OpenK.AllK
import Wide.FinOn
import HandS.ForMost
import HandS.ForExc
import HandS.ExcIs
import HandS.IsInst
import HandS.EndTab
import HandS.TupLe
import HandS.Property
import HandS.MakeKwOnly
import HandS.Wide
import HandS.Style
import HandS.FStr
import HandS.StrMore
import HandS.WideBits
import HandS.Walk
import PyProof.Rows.StrIntSpec
import PyProof.FString3
import PyProof.Rows.FStr
import PySem.Challenge.RW_narrowingbits_k06_letters_fill_the_node
set_option Elab.async false
set_option maxRecDepth 100000
set_option maxHeartbeats 4000000
namespace NB
open PySem L2
/-! ### the frozen part, the steps -/
/-- from (F, H) to (F', H'): F is what stands still, H the whole; S: the cells that may be written -/
structure Stp (S : Addr → Prop) (F H F' H' : Hp) : Prop where
  ff : Same F F'
  fh : Same F' H'
  fo : ∀ b o, H b = some o → F' b = F b
  keep : ∀ b o, ¬ S b → H b = some o → H' b = some o
  dom : ∀ b o, H b = some o → ∃ o', H' b = some o'
abbrev S0 : Addr → Prop := fun _ => False
abbrev S1 (p : Addr) : Addr → Prop := fun b => b = p
section
variable {S S' : Addr → Prop} {F H F1 H1 F2 H2 : Hp} {p : Addr} {o o' : HO}
theorem Stp.rfl' (h : Same F H) : Stp S F H F H := ⟨Same.refl F, h, fun _ _ _ => rfl, fun _ _ _ e => e, fun _ o e => ⟨o, e⟩⟩
theorem Stp.trans (a : Stp S F H F1 H1) (b : Stp S F1 H1 F2 H2) : Stp S F H F2 H2 :=
  ⟨a.ff.trans b.ff, b.fh, fun c o e => by
    obtain ⟨o', e'⟩ := a.dom c o e
    rw [b.fo c o' e', a.fo c o e], fun c o n e => b.keep c o n (a.keep c o n e), fun c o e => by
    obtain ⟨o', e'⟩ := a.dom c o e
    exact b.dom c o' e'⟩
theorem Stp.sub (i : ∀ b, S b → S' b) (a : Stp S F H F1 H1) : Stp S' F H F1 H1 := ⟨a.ff, a.fh, a.fo, fun b o n e => a.keep b o (fun z => n (i b z)) e, a.dom⟩
theorem Stp.up (a : Stp S0 F H F1 H1) : Stp S F H F1 H1 := a.sub fun _ z => z.elim
theorem Stp.same (a : Stp S0 F H F1 H1) : Same H H1 := fun b o e => a.keep b o (fun z => z) e
/-- a new thing that will never change -/
theorem Stp.new (h : Same F H) (hp : H p = none) : Stp S F H (upd F p o) (upd H p o) := by
  have fp : F p = none := h.free hp
  refine ⟨fun b u e => ?_, fun b u e => ?_, fun b u e => ?_, fun b u _ e => ?_, fun b u e => ⟨u, ?_⟩⟩
  · rw [upd_ne (ne_of_none e fp)]; exact e
  · by_cases q : b = p
    · subst q; rw [upd_same] at e ⊢; exact e
    · rw [upd_ne q] at e ⊢; exact h b u e
  · rw [upd_ne (ne_of_none e hp)]
  · rw [upd_ne (ne_of_none e hp)]; exact e
  · rw [upd_ne (ne_of_none e hp)]; exact e
/-- a new cell -/
theorem Stp.cell (h : Same F H) (hp : H p = none) : Stp S F H F (upd H p o) :=
  ⟨Same.refl F, fun b u e => by rw [upd_ne (ne_of_none (h b u e) hp)]; exact h b u e, fun _ _ _ => rfl, fun b u _ e => by rw [upd_ne (ne_of_none e hp)]; exact e, fun b u e => ⟨u, by rw [upd_ne (ne_of_none e hp)]; exact e⟩⟩
/-- a cell written -/
theorem Stp.wr (h : Same F H) (hs : S p) (fp : F p = none) : Stp S F H F (upd H p o) :=
  ⟨Same.refl F, fun b u e => by
    have n : b ≠ p := fun q => by rw [q, fp] at e; cases e
    rw [upd_ne n]; exact h b u e, fun _ _ _ => rfl, fun b u n e => by
    have q : b ≠ p := fun z => n (z ▸ hs)
    rw [upd_ne q]; exact e, fun b u e => by
    by_cases q : b = p
    · exact ⟨o, by rw [q, upd_same]⟩
    · exact ⟨u, by rw [upd_ne q]; exact e⟩⟩
/-- a cell that was made here is written -/
theorem Stp.wrNew (a : Stp S F H F1 H1) (hn : H p = none) (fp : F1 p = none) : Stp S F H F1 (upd H1 p o) :=
  ⟨a.ff, fun b u e => by
    have n : b ≠ p := fun q => by rw [q, fp] at e; cases e
    rw [upd_ne n]; exact a.fh b u e, a.fo, fun b u n e => by
    rw [upd_ne (ne_of_none e hn)]; exact a.keep b u n e, fun b u e => by
    rw [upd_ne (ne_of_none e hn)]; exact a.dom b u e⟩
/-- a cell that was made here stands still from now on -/
theorem Stp.freeze (a : Stp S F H F1 H1) (hn : H p = none) (hp : H1 p = some o) (fp : F1 p = none) : Stp S F H (upd F1 p o) H1 :=
  ⟨fun b u e => by
    have e1 := a.ff b u e
    rw [upd_ne (ne_of_none e1 fp)]; exact e1, fun b u e => by
    by_cases q : b = p
    · subst q; rw [upd_same] at e; cases e; exact hp
    · rw [upd_ne q] at e; exact a.fh b u e, fun b u e => by
    rw [upd_ne (ne_of_none e hn)]; exact a.fo b u e, a.keep, a.dom⟩
theorem Stp.free (a : Stp S F H F1 H1) (hp : H p = some o) (fp : F p = none) : F1 p = none := (a.fo p o hp).trans fp
end
/-! ### a def that stands, with its promise -/
structure Fn (P : Program) (w : World) (K : PySem.W.Frag) (mg : Str → Option Value) (base : Heap) (CX : CXT) (k : Nat) (nm : Str) (st : Stmt) (f : Addr) (fd : FuncData) (ps : List Str) (sp : Sp) : Prop where
  G : FnOk P w K mg base CX k f fd ps sp
  m : mg nm = some (.ref f)
  kp : PySem.W.keepIn K (.ref f) = true
  b : Binds K fd ps []
  F : Fun K nm nm st f fd
/-! ### keywords -/
def gK {α : Type} (n m : Nat) (us ws : List α) : List α := if us.length = n ∧ ws.length = m then us ++ ws else []
theorem _root_.L2.Fun.kbinds {K : PySem.W.Frag} {x qual : Str} {st : Stmt} {f : Addr} {fd : FuncData} {ps : List Str} (F : Fun K x qual st f fd) (n : Nat) (ks : List Str) (hn : 0 < ps.length)
    (h : ∀ (kV doc pm : Value) (an : Option Addr) (cdv ct : Value) (us ws : List Value), us.length = n → ws.length = ks.length → bindArgs (PySem.W.fnOf x qual (defArgs st) (defBody st) (defScope st) .none kV doc pm an cdv ct) ⟨us, ks.zip ws⟩ = pure (ps.zip (us ++ ws))) :
    KBinds K fd ps ks (gK n ks.length) (gK n ks.length) := by
  obtain ⟨oc, od, kV, doc, pm, an, cdv, ct, osl, rfl, lk, hcd⟩ := F.ex
  refine ⟨fun s us ws _ hl => ?_, fun {vs us zs ws} r rz => ?_⟩
  · by_cases c : us.length = n ∧ ws.length = ks.length
    · have e : gK n ks.length us ws = us ++ ws := if_pos c
      rw [e]
      exact .of_eq (h kV doc pm an cdv ct us ws c.1 c.2)
    · have e : gK n ks.length us ws = [] := if_neg c
      rw [e] at hl
      exact absurd hl (by show ¬ 0 = ps.length; omega)
  · unfold gK
    by_cases c : us.length = n ∧ ws.length = ks.length
    · have c' : vs.length = n ∧ zs.length = ks.length := ⟨r.length.trans c.1, rz.length.trans c.2⟩
      rw [if_pos c, if_pos c']
      exact r.append rz
    · have c' : ¬ (vs.length = n ∧ zs.length = ks.length) := fun z => c ⟨r.length.symm.trans z.1, rz.length.symm.trans z.2⟩
      rw [if_neg c, if_neg c']
      exact .nil
def tCallK0 (sp : Sp) (gV : List V → List V → List V) (E : XK) (tk : TA) : TE := fun σ H Q => tk σ H fun zs H2 => sp (gV [] zs) H2 Q E
theorem pe_callK0 {X : Cx} {CX : CXT} {k : Nat} {f : Addr} {fd : FuncData} {ps ks : List Str} {sp : Sp} {E : XK} {x : Str} {p pos : Pos} {kws : List Keyword} {tk : TA} {g : List Value → List Value → List Value} {gV : List V → List V → List V}
    (F : FnOk X.prog X.w X.K X.mg X.base CX k f fd ps sp) (hr : Room k X.A) (hg : Gl X x) (hm : X.mg x = some (.ref f)) (hk : PySem.W.keepIn X.K (.ref f) = true) (hb : KBinds X.K fd ps ks g gV) (hx : Passes CX X E) (hkw : PK X kws tk)
    (hall : (backToKw pos (keywordEach kws X.env)).all (·.1.isSome) = true := by rfl) (hks : (backToKw pos (keywordEach kws X.env)).filterMap (·.1) = ks := by rfl) (hdb : (x == ("__debug__" : Str)) = false := by decide)
    (hpl : ((backTo pos (starEach [] X.env)).any (·.1) || (backToKw pos (keywordEach kws X.env)).any (·.1.isNone)) = false := by rfl) : PE X (.Call (.Name x p) [] kws pos) (tCallK0 sp gV E tk) := by
  refine ⟨fun pins s σ H Q I h => ?_⟩
  refine wpAny_Call_Name_kw (ld_glob I hg hm ?_ hdb)
  refine PySem.W.callWith_KW0 (h₀ := X.base) I.ok.mod.kin hk hall ?_ hpl
  refine thn (hkw.run pos pins s σ H _ I h) fun ws s2 ⟨zs, H2, I2, rz, q2⟩ => ⟨I2.kIn, ?_⟩
  rw [hks]
  exact run_fnk F hr hb hx I2 .nil rz q2
def SpN (n : Nat) (s : Sp) : Sp := fun vs H Q E => vs.length = n ∧ s vs H Q E
/-! ### rules under names -/
def rInt1 : List V → Hp → VK → Prop := fun xs H Q => (∃ i, xs = [.int i] ∧ Q (.int i) H) ∨ ∃ k, xs = [.bl k] ∧ Q (.int (if k then 1 else 0)) H
def rMax2 : List V → Hp → VK → Prop := fun xs H Q => ∃ i j, xs = [.int i, .int j] ∧ Q (.int (if j > i then j else i)) H
def rMin2 : List V → Hp → VK → Prop := fun xs H Q => ∃ i j, xs = [.int i, .int j] ∧ Q (.int (if j < i then j else i)) H
def rLen (K : PySem.W.Frag) : List V → Hp → VK → Prop := fun xs H Q => ∃ p ys, xs = [.ref p] ∧ (SqL K H p ys ∨ SqT K H p ys) ∧ Q (.int ys.length) H
section
variable {X : Cx}
theorem c_int1 : CallR X (.type "int") rInt1 := call_int1
theorem c_max2 (hc : X.calm = true) : CallR X (.builtin "max") rMax2 := call_max2 hc
theorem c_min2 (hc : X.calm = true) : CallR X (.builtin "min") rMin2 := call_min2 hc
theorem c_len (K : PySem.W.Frag) (e : X.K = K) : CallR X (.builtin "len") (rLen K) := by subst e; exact call_len_seq
theorem c_isi (K : PySem.W.Frag) (e : X.K = K) : CallR X (.builtin "isinstance") (rIsi K) := by subst e; exact call_isi
theorem i_list (K : PySem.W.Frag) (e : X.K = K) : IxR X (rIxL K) := by subst e; exact ix_list
theorem i_tup (K : PySem.W.Frag) (e : X.K = K) : IxR X (rIxT K) := by subst e; exact ix_tup
theorem o_and1 : OpR X (binaryOp .BitAnd) (fun x y H Q => ∃ i : Int, x = .int i ∧ y = .int 1 ∧ Q (.int (i % 2)) H) := by
  intro pins s σ H x y v u Q I rx ry h
  obtain ⟨i, rfl, rfl, q⟩ := h
  exact op_andM pins s σ H _ _ v u Q I rx ry ⟨i, 1, rfl, rfl, by simpa using q⟩
theorem l_list (K : PySem.W.Frag) (e : X.K = K) : SlR X (rSlL K) := by subst e; exact sl_list
theorem o_in (K : PySem.W.Frag) (e : X.K = K) : OpR X (compareOp .In) (rIn K false) := by subst e; exact op_in_seq
theorem o_notIn (K : PySem.W.Frag) (e : X.K = K) : OpR X (compareOp .NotIn) (rIn K true) := by subst e; exact op_notIn_seq
def rDivmod : List V → Hp → VK → Prop := fun xs H Q => ∃ i j, xs = [.int i, .int j] ∧ CDiv i j ∧ ∀ p, H p = none → Q (.ref p) (upd H p (.tup [.int (i / j), .int (i % j)]))
theorem c_divmod : CallR X (.builtin "divmod") rDivmod := call_divmod
theorem o_eqD (K : PySem.W.Frag) (e : X.K = K) (hu : X.A.units + 64 < cLine) : OpR X (compareOp .Eq) (rEqD K) := by subst e; exact op_eqD hu
theorem o_neD (K : PySem.W.Frag) (e : X.K = K) (hu : X.A.units + 64 < cLine) : OpR X (compareOp .NotEq) (rNeD K) := by subst e; exact op_neD hu
end
theorem sz {n : Nat} (h : n ≤ 100000) : n ≤ sizeLine := Nat.le_trans h (by decide)
/-! ### readings, step by step -/
section
variable {X : Cx} {K : PySem.W.Frag} {σ : L2.St} {H F : Hp} {Q : VK} {i : Nat} {v x y : V} {ta tb : TE} {r : R2}
theorem s_var (h : σ[i]? = some (some v)) (q : Q v H) : tVar i σ H Q := ⟨v, h, q⟩
theorem s_c (q : Q v H) : tC v σ H Q := q
theorem s_op (h : ta σ H fun x H1 => tb σ H1 fun y H2 => r x y H2 Q) : tOp r ta tb σ H Q := h
theorem s_I0 {g : Int → Int → V} {i j : Int} (q : Q (g i j) H) : rI0 g (.int i) (.int j) H Q := ⟨i, j, rfl, rfl, q⟩
theorem s_I {C : Int → Int → Prop} {g : Int → Int → V} {i j : Int} (c : C i j) (q : Q (g i j) H) : rI C g (.int i) (.int j) H Q := ⟨i, j, rfl, rfl, c, q⟩
theorem s_eq (h : scal x y = true) (q : Q (.bl (decide (x = y))) H) : rEq x y H Q := ⟨h, q⟩
theorem dec_int (i j : Int) : decide (V.int i = V.int j) = decide (i = j) := by by_cases h : i = j <;> simp [h]
theorem dec_str (i j : Str) : decide (V.str i = V.str j) = decide (i = j) := by by_cases h : i = j <;> simp [h]
theorem s_eqI {i j : Int} (q : Q (.bl (decide (i = j))) H) : rEq (.int i) (.int j) H Q := ⟨rfl, by rw [dec_int]; exact q⟩
theorem s_neI {i j : Int} (q : Q (.bl (!decide (i = j))) H) : rNe (.int i) (.int j) H Q := ⟨rfl, by rw [dec_int]; exact q⟩
theorem s_eqS {i j : Str} (q : Q (.bl (decide (i = j))) H) : rEq (.str i) (.str j) H Q := ⟨rfl, by rw [dec_str]; exact q⟩
theorem s_neS {i j : Str} (q : Q (.bl (!decide (i = j))) H) : rNe (.str i) (.str j) H Q := ⟨rfl, by rw [dec_str]; exact q⟩
theorem s_chain {r' : R2} {tc : TE} (h : ta σ H fun x H1 => tb σ H1 fun y H2 => r x y H2 fun z H3 => ∃ k, z = .bl k ∧ if k = true then tc σ H3 fun u H4 => r' y u H4 Q else Q (.bl false) H3) : tChain r r' ta tb tc σ H Q := by
  unfold tChain; exact h
theorem s_par3 {i j l : Nat} {ta : TA} {D : Ends} (h : ta σ H fun vs H1 => ∃ u v w, vs = [u, v, w] ∧ D.nx (((σ.set i (some u)).set j (some v)).set l (some w)) H1) : tPar3 i j l ta D σ H := h
theorem s_par {i j : Nat} {ta : TA} {D : Ends} (h : ta σ H fun vs H1 => ∃ v w, vs = [v, w] ∧ D.nx ((σ.set i (some v)).set j (some w)) H1) : tPar i j ta D σ H := h
theorem s_v2 {x y : V} {R : V → V → Prop} (h : R x y) : ∃ a b, [x, y] = [a, b] ∧ R a b := ⟨x, y, rfl, h⟩
theorem s_v3 {x y z : V} {R : V → V → V → Prop} (h : R x y z) : ∃ a b c, [x, y, z] = [a, b, c] ∧ R a b c := ⟨x, y, z, rfl, h⟩
theorem s_tup {t : TA} (h : t σ H fun xs H1 => xs.length ≤ sizeLine ∧ ∀ p, H1 p = none → Q (.ref p) (upd H1 p (.tup xs))) : tTup t σ H Q := h
theorem s_lst {t : TA} (h : t σ H fun xs H1 => xs.length ≤ sizeLine ∧ ∀ p, H1 p = none → Q (.ref p) (upd H1 p (.lst xs))) : tLst t σ H Q := h
theorem s_nil {Q : List V → Hp → Prop} (q : Q [] H) : tNil σ H Q := q
theorem s_cons {t : TA} {Q : List V → Hp → Prop} (h : ta σ H fun x H1 => t σ H1 fun xs H2 => Q (x :: xs) H2) : tCons ta t σ H Q := h
theorem s_call {sp : Sp} {dvs : List V} {E : XK} {t : TA} (h : t σ H fun vs H1 => sp (vs ++ dvs) H1 Q E) : tCall sp dvs E t σ H Q := h
theorem s_callK0 {sp : Sp} {gV : List V → List V → List V} {E : XK} {t : TA} (h : t σ H fun zs H1 => sp (gV [] zs) H1 Q E) : tCallK0 sp gV E t σ H Q := h
theorem s_callK {sp : Sp} {gV : List V → List V → List V} {E : XK} {t tk : TA} (h : t σ H fun vs H1 => tk σ H1 fun zs H2 => sp (gV vs zs) H2 Q E) : tCallK sp gV E t tk σ H Q := h
theorem s_bits (h : ta σ H fun x H1 => ∃ i, x = .int i ∧ Q (.int (Builtin.Int.intBits i : Nat)) H1) : tBits ta σ H Q := h
theorem s_i {i : Int} {R : Int → Prop} (h : R i) : ∃ j, V.int i = V.int j ∧ R j := ⟨i, rfl, h⟩
theorem s_bm {T : String} {r : V → List V → Hp → VK → Prop} {to : TE} {t : TA} (h : to σ H fun x H1 => tyV K T x H1 ∧ t σ H1 fun xs H2 => r x xs H2 Q) : tBM K T r to t σ H Q := h
theorem s_bm0 {T : String} {r : V → List V → Hp → VK → Prop} {to : TE} (h : to σ H fun x H1 => tyV K T x H1 ∧ r x [] H1 Q) : tBM0 K T r to σ H Q := h
theorem s_m1 {r : V → List V → Hp → VK → Prop} (h : ta σ H fun x H1 => (∃ a, x = .str a) ∧ tb σ H1 fun y H2 => r x [y] H2 Q) : tM1 r ta tb σ H Q := h
theorem s_cb {r : List V → Hp → VK → Prop} {t : TA} (h : t σ H fun vs H1 => r vs H1 Q) : tCB r t σ H Q := h
theorem s_test {Q : Bool → Hp → Prop} {t : TE} (h : t σ H fun x H' => ∃ k, x = .bl k ∧ Q k H') : tTest t σ H Q := h
theorem s_tB {Q : Bool → Hp → Prop} {t : TE} (h : t σ H fun x H' => ∃ k, x = .bl k ∧ Q k H') : tB t σ H Q := h
theorem s_bl {k : Bool} {Q : Bool → Hp → Prop} (q : Q k H) : ∃ k', V.bl k = .bl k' ∧ Q k' H := ⟨k, rfl, q⟩
theorem s_not {Q : Bool → Hp → Prop} {t : TT} (h : t σ H fun c H1 => Q (!c) H1) : tNot t σ H Q := h
theorem s_and {Q : Bool → Hp → Prop} {t u : TT} (h : t σ H fun c H1 => if c = true then u σ H1 Q else Q false H1) : tAnd t u σ H Q := h
theorem s_or {Q : Bool → Hp → Prop} {t u : TT} (h : t σ H fun c H1 => if c = true then Q true H1 else u σ H1 Q) : tOr t u σ H Q := h
theorem s_un {r : V → Hp → VK → Prop} (h : ta σ H fun x H1 => r x H1 Q) : tUn r ta σ H Q := h
theorem s_U {g : Int → V} {i : Int} (q : Q (g i) H) : rU g (.int i) H Q := ⟨i, rfl, q⟩
theorem s_int1 {i : Int} (q : Q (.int i) H) : rInt1 [.int i] H Q := .inl ⟨i, rfl, q⟩
theorem s_int1b {b : Bool} (q : Q (.int (if b then 1 else 0)) H) : rInt1 [.bl b] H Q := .inr ⟨b, rfl, q⟩
theorem s_ixL {p : Addr} {xs : List V} {i : Int} (h : SqL K H p xs) (a : atI xs i = some v) (q : Q v H) : rIxL K (.ref p) (.int i) H Q := ⟨p, xs, i, v, rfl, rfl, h, a, q⟩
theorem s_ixT {p : Addr} {xs : List V} {i : Int} (h : SqT K H p xs) (a : atI xs i = some v) (q : Q v H) : rIxT K (.ref p) (.int i) H Q := ⟨p, xs, i, v, rfl, rfl, h, a, q⟩
theorem s_len {p : Addr} {xs : List V} (h : SqL K H p xs) (q : Q (.int xs.length) H) : rLen K [V.ref p] H Q := ⟨p, xs, rfl, .inl h, q⟩
theorem s_lenT {p : Addr} {xs : List V} (h : SqT K H p xs) (q : Q (.int xs.length) H) : rLen K [V.ref p] H Q := ⟨p, xs, rfl, .inr h, q⟩
theorem s_max2 {i j : Int} (q : Q (.int (if j > i then j else i)) H) : rMax2 [.int i, .int j] H Q := ⟨i, j, rfl, q⟩
theorem s_min2 {i j : Int} (q : Q (.int (if j < i then j else i)) H) : rMin2 [.int i, .int j] H Q := ⟨i, j, rfl, q⟩
theorem s_isi {v : V} {n : String} {t : String} {b : Bool} (h : TyX K H v (.type t)) (e : kitB t n = some b) (q : Q (.bl b) H) : rIsi K [v, .ty n] H Q := ⟨v, .ty n, .type t, .type n, b, rfl, .ty n, h, kit_ty e, q⟩
theorem s_eqD {d e : PyData} (h1 : Dp K H x d) (h2 : Dp K H y e) (s1 : SeqAt.shaped d = true) (s2 : SeqAt.shaped e = true) (q : Q (.bl (PyData.eqv d e)) H) : rEqD K x y H Q := ⟨d, e, h1, h2, s1, s2, q⟩
theorem s_andV {c : Bool} (h : if c = true then tb σ H Q else Q (.bl false) H) : ∃ c', V.bl c = .bl c' ∧ if c' = true then tb σ H Q else Q (.bl false) H := ⟨c, rfl, h⟩
theorem s_andV0 (h : ta σ H fun x H1 => ∃ c, x = .bl c ∧ if c = true then tb σ H1 Q else Q (.bl false) H1) : tAndV ta tb σ H Q := h
theorem s_orV0 (h : ta σ H fun x H1 => ∃ c, x = .bl c ∧ if c = true then Q (.bl true) H1 else tb σ H1 Q) : tOrV ta tb σ H Q := h
theorem s_notV (h : ta σ H fun x H1 => ∃ c, x = .bl c ∧ Q (.bl (!c)) H1) : tNotV ta σ H Q := h
theorem s_b {c : Bool} {R : Bool → Prop} (h : R c) : ∃ c', V.bl c = V.bl c' ∧ R c' := ⟨c, rfl, h⟩
theorem s_gtup {n : Nat} {t : TGs} {a : Addr} {xs : List V} {R : L2.St → Hp → Prop} (h : SqT K H a xs) (e : xs.length = n) (q : t xs σ H R) : gTup K n t (.ref a) σ H R := ⟨a, xs, rfl, h, e, q⟩
theorem s_gcons {t : TG} {u : TGs} {r : List V} {R : L2.St → Hp → Prop} (q : t v σ H fun σ' H' => u r σ' H' R) : gCons t u (v :: r) σ H R := ⟨v, r, rfl, q⟩
theorem s_gnil {R : L2.St → Hp → Prop} (q : R σ H) : gNil [] σ H R := ⟨rfl, q⟩
theorem s_gsub {to ti : TE} {t : TSet} {R : L2.St → Hp → Prop} (h : to σ H fun o H1 => ti σ H1 fun i H2 => t o i v H2 fun H3 => R σ H3) : gSub to ti t v σ H R := h
theorem s_setL {p : Addr} {xs : List V} {i : Int} {j : Nat} {R : Hp → Prop} (h : H p = some (.lst xs)) (e : ixN xs.length i = some j) (q : R (upd H p (.lst (xs.set j v)))) : rSetL (.ref p) (.int i) v H R := ⟨p, xs, i, j, rfl, rfl, h, e, q⟩
theorem s_ifE {t : TT} (h : t σ H fun c H1 => if c = true then ta σ H1 Q else tb σ H1 Q) : tIf t ta tb σ H Q := h
variable {D : Ends} {t u : TS}
theorem s_seq (h : t { D with nx := u D } σ H) : tSeq t u D σ H := h
theorem s_next (h : D.nx σ H) : tNext D σ H := h
theorem s_asg {g : TG} (h : ta σ H fun x H1 => g x σ H1 D.nx) : tAsg ta g D σ H := h
theorem s_gname {R : L2.St → Hp → Prop} (h : R (σ.set i (some v)) H) : gName i v σ H R := h
theorem s_ret (h : ta σ H D.rt) : tRet ta D σ H := h
theorem s_if {c : TT} (h : c σ H fun b H1 => if b = true then t D σ H1 else u D σ H1) : tIfS c t u D σ H := h
theorem s_drop (h : ta σ H fun _ H1 => D.nx σ H1) : tDrop ta D σ H := h
/-- a loop over what stands -/
def forT (J : It) (g : TG) (tb : TS) : TS := tFor (fun _ H R => R J H) g tb
theorem s_for {wi : TI} {g : TG} {tb : TS} (h : wi σ H fun J H1 => forT J g tb D σ H1) : tFor wi g tb D σ H := h
theorem s_iR1 {ta : TA} {R : It → Hp → Prop} (h : ta σ H fun vs H1 => ∃ n : Int, vs = [.int n] ∧ -(2 ^ 62) ≤ n ∧ n < 2 ^ 62 ∧ R (Itr 0 n.toNat) H1) : iRng1 ta σ H R := h
theorem s_iR2 {ta : TA} {R : It → Hp → Prop} (h : ta σ H fun vs H1 => ∃ m n : Int, vs = [.int m, .int n] ∧ (-(2 ^ 62) ≤ m ∧ m < 2 ^ 62 ∧ -(2 ^ 62) ≤ n ∧ n < 2 ^ 62) ∧ R (Itr m (n - m).toNat) H1) : iRng2 ta σ H R := h
theorem s_iL {R : It → Hp → Prop} (h : ta σ H fun x H1 => ∃ a, x = .ref a ∧ (∃ xs, SqL K H1 a xs) ∧ R (Itl K a) H1) : iList K ta σ H R := h
theorem s_iT {R : It → Hp → Prop} (h : ta σ H fun x H1 => ∃ a, x = .ref a ∧ (∃ xs, SqT K H1 a xs) ∧ R (Itt K a) H1) : iTup K ta σ H R := h
theorem s_iS {R : It → Hp → Prop} (h : ta σ H fun x H1 => ∃ z, x = .str z ∧ R (Its z) H1) : iStr ta σ H R := h
theorem forW {J : It} {n : Nat} {G : Hp → Prop} {Y : Nat → Hp → V → Hp → Prop} {g : TG} {tb : TS} (w : Walk J n G Y) (Pv : Nat → L2.St → Hp → Prop) (h0 : Pv 0 σ H) (hG : ∀ i σ H, i ≤ n → Pv i σ H → G H)
    (hs : ∀ i x σ H H', i < n → Pv i σ H → Y i H x H' → g x σ H' fun σ2 H2 => tb { D with nx := Pv (i + 1), ct := Pv (i + 1), bk := D.nx } σ2 H2) (hd : ∀ σ H, Pv n σ H → D.nx σ H) : forT J g tb D σ H := for_it w Pv h0 hG hs hd
theorem forR {lo : Int} {n : Nat} {g : TG} {tb : TS} (Pv : Nat → L2.St → Hp → Prop) (h0 : Pv 0 σ H) (hs : ∀ i σ H, i < n → Pv i σ H → g (.int (lo + i)) σ H fun σ2 H2 => tb { D with nx := Pv (i + 1), ct := Pv (i + 1), bk := D.nx } σ2 H2)
    (hd : ∀ σ H, Pv n σ H → D.nx σ H) : forT (Itr lo n) g tb D σ H := for_range Pv h0 hs hd
theorem forL {a : Addr} {xs : List V} {g : TG} {tb : TS} (Pv : Nat → L2.St → Hp → Prop) (h0 : Pv 0 σ H) (hl : ∀ i σ H, i ≤ xs.length → Pv i σ H → SqL K H a xs)
    (hs : ∀ i x σ H, xs[i]? = some x → Pv i σ H → g x σ H fun σ2 H2 => tb { D with nx := Pv (i + 1), ct := Pv (i + 1), bk := D.nx } σ2 H2) (hd : ∀ σ H, Pv xs.length σ H → D.nx σ H) : forT (Itl K a) g tb D σ H := for_list Pv h0 hl hs hd
/-- a comprehension over what stands -/
def lcT (J : It) (g : TG) (tt : TT) (te : TE) (vs : List Nat) : TE := tLc (fun _ H R => R J H) g tt te vs
theorem s_lc {wi : TI} {g : TG} {tt : TT} {te : TE} {vs : List Nat} (h : wi σ H fun J H1 => lcT J g tt te vs σ H1 Q) : tLc wi g tt te vs σ H Q := h
theorem s_sl {r : V → Option Int → Option Int → Hp → VK → Prop} {tl th : TO} (h : ta σ H fun x H1 => tl σ H1 fun l H2 => th σ H2 fun u H3 => r x l u H3 Q) : tSl r ta tl th σ H Q := h
theorem s_part {R : Option Int → Hp → Prop} (h : ta σ H fun x H1 => ∃ i, x = .int i ∧ R (some i) H1) : tPart ta σ H R := h
theorem s_nopart {R : Option Int → Hp → Prop} (h : R none H) : tNoPart σ H R := h
theorem s_slL {p : Addr} {xs : List V} {l u : Option Int} (h : SqL K H p xs) (q : ∀ p', H p' = none → Q (.ref p') (upd H p' (.lst (cutV xs l u)))) : rSlL K (.ref p) l u H Q := ⟨p, xs, rfl, h, q⟩
theorem s_iR3 {ta : TA} {R : It → Hp → Prop} (h : ta σ H fun vs H1 => ∃ (i j c : Int) (n : Nat), vs = [.int i, .int j, .int c] ∧ RgC i j c n ∧ R (Itc i c n) H1) : iRng3 ta σ H R := h
theorem rgc_up {L k : Int} (hL : 0 ≤ L) (hL2 : L < 2 ^ 62) (hk : 0 < k) (hk2 : k < 1073741824) : RgC 0 L k ((L + k - 1) / k).toNat := by
  have e : Builtin.Range.rangeSize 0 L k = (((L + k - 1) / k).toNat : Int) := by
    unfold Builtin.Range.rangeSize
    rw [if_pos hk]
    have h0 : 0 ≤ (L + k - 1) / k := Int.ediv_nonneg (by omega) (by omega)
    split
    · rw [show L + k - 1 = (L - 0 - 1) + k by omega, Int.add_ediv_of_dvd_right (Int.dvd_refl k), Int.ediv_self (by omega)]
      have : 0 ≤ (L - 0 - 1) / k := Int.ediv_nonneg (by omega) (by omega)
      omega
    · have : L = 0 := by omega
      subst this
      rw [Int.ediv_eq_zero_of_lt (by omega) (by omega)]; rfl
  refine ⟨by omega, by omega, ?_, e⟩
  have hb : (L + k - 1) / k ≤ L + k - 1 := Int.ediv_le_self _ (by omega)
  unfold Builtin.Range.small
  rw [e]
  simp only [Builtin.Range.rangeFitsLong, Bool.and_eq_true, Bool.or_eq_true, decide_eq_true_eq, beq_iff_eq, show (k > 0) = True from eq_true hk, if_true]
  omega
theorem s_wipe {σ2 : L2.St} {vs : List Nat} {R : Prop} (h : wipe σ2 vs = wipe σ vs) (q : R) : wipe σ2 vs = wipe σ vs ∧ R := ⟨h, q⟩
theorem s_yes {Q : Bool → Hp → Prop} (q : Q true H) : tYes σ H Q := q
/-- within a comprehension: what has been made so far stands at D -/
structure LcP (S : Addr → Prop) (F H : Hp) (Dd : Addr) (R : Nat → List V → Hp → Hp → Prop) (i : Nat) (Hc : Hp) : Prop where
  ex : ∃ Fc acc, Stp S F H Fc Hc ∧ Fc Dd = none ∧ Hc Dd = some (.lst acc) ∧ acc.length ≤ i ∧ R i acc Fc Hc
  fresh : H Dd = none
theorem lcW {J : It} {n : Nat} {G : Hp → Prop} {Y : Nat → Hp → V → Hp → Prop} {g : TG} {tt : TT} {te : TE} {vs : List Nat} (w : Walk J n G Y) (S : Addr → Prop) (hF : Same F H) (hS : ∀ b, S b → ∃ o, H b = some o)
    (hG : ∀ F1 H1, Stp S F H F1 H1 → G H1) (R : Nat → List V → Hp → Hp → Prop) (hR : ∀ i acc F1 H1 d o, ¬ S d → F1 d = none → Stp S F H F1 H1 → R i acc F1 H1 → R i acc F1 (upd H1 d o)) (h0 : R 0 [] F H)
    (hs : ∀ i x acc d F1 H1 H2, i < n → Y i H1 x H2 → H d = none → ¬ S d → Stp S F H F1 H1 → F1 d = none → H1 d = some (.lst acc) → acc.length ≤ i → R i acc F1 H1 → g x (wipe σ vs) H2 fun σ2 H3 => wipe σ2 vs = wipe σ vs ∧ tt σ2 H3 fun b H4 =>
      if b = true then te σ2 H4 fun y H5 => ∃ acc', H5 d = some (.lst acc') ∧ acc'.length < sizeLine ∧ LcP S F H d R (i + 1) (upd H5 d (.lst (acc' ++ [y]))) else LcP S F H d R (i + 1) H4)
    (hd : ∀ d acc F0 F1 H1, Stp S F H F0 H1 → H d = none → F0 d = none → F1 = upd F0 d (.lst acc) → Stp S F H F1 H1 → acc.length ≤ n → R n acc F0 H1 → Q (.ref d) H1) : lcT J g tt te vs σ H Q := by
  intro d hd0
  have nS : ¬ S d := fun z => by
    obtain ⟨o, e⟩ := hS d z
    rw [hd0] at e; cases e
  refine lc_it w (LcP S F H d R) ⟨⟨F, [], Stp.cell hF hd0, hF.free hd0, upd_same, Nat.le_refl _, hR 0 [] F H d _ nS (hF.free hd0) (.rfl' hF) h0⟩, hd0⟩ (fun i H1 _ p => ?_) (fun i x H1 H2 hi p y => ?_) (fun H1 p => ?_)
  · obtain ⟨⟨Fc, acc, st, _⟩, _⟩ := p
    exact hG _ _ st
  · obtain ⟨⟨Fc, acc, st, f0, e, hl, r⟩, _⟩ := p
    exact hs i x acc d Fc H1 H2 hi y hd0 nS st f0 e hl r
  · obtain ⟨⟨Fc, acc, st, f0, e, hl, r⟩, _⟩ := p
    exact hd d acc Fc _ H1 st hd0 f0 rfl (st.freeze hd0 e f0) hl r
theorem lc_end {S : Addr → Prop} {R : Nat → List V → Hp → Hp → Prop} {i : Nat} {acc : List V} {d : Addr} {F1 H1 F4 H4 : Hp} {y : V} (hN : H d = none) (nS : ¬ S d) (st : Stp S F H F1 H1) (f0 : F1 d = none) (e : H1 d = some (.lst acc)) (hl : acc.length ≤ i) (hi : i < 100000)
    (s4 : Stp S F1 H1 F4 H4) (r : R (i + 1) (acc ++ [y]) F4 (upd H4 d (.lst (acc ++ [y])))) : ∃ acc', H4 d = some (.lst acc') ∧ acc'.length < sizeLine ∧ LcP S F H d R (i + 1) (upd H4 d (.lst (acc' ++ [y]))) :=
  ⟨acc, s4.keep _ _ nS e, Nat.lt_of_lt_of_le (Nat.lt_of_le_of_lt hl hi) (by decide), ⟨⟨F4, acc ++ [y], (st.trans s4).wrNew hN ((s4.fo _ _ e).trans f0), (s4.fo _ _ e).trans f0, upd_same, by simp; omega, r⟩, hN⟩⟩
theorem lc_skip {S : Addr → Prop} {R : Nat → List V → Hp → Hp → Prop} {i : Nat} {acc : List V} {d : Addr} {F1 H1 F4 H4 : Hp} (hN : H d = none) (nS : ¬ S d) (st : Stp S F H F1 H1) (f0 : F1 d = none) (e : H1 d = some (.lst acc)) (hl : acc.length ≤ i)
    (s4 : Stp S F1 H1 F4 H4) (r : R (i + 1) acc F4 H4) : LcP S F H d R (i + 1) H4 := ⟨⟨F4, acc, st.trans s4, (s4.fo _ _ e).trans f0, s4.keep _ _ nS e, by omega, r⟩, hN⟩
theorem ifd {p A B : Prop} [Decidable p] (a : p → A) (b : ¬ p → B) : if decide p = true then A else B := by
  by_cases h : p
  · rw [if_pos (decide_eq_true h)]; exact a h
  · rw [if_neg (by simp [h])]; exact b h
theorem itNF {A B : Prop} (h : B) : if (!true) = true then A else B := h
theorem itNT {A B : Prop} (h : A) : if (!false) = true then A else B := h
theorem ifn {p A B : Prop} [Decidable p] (a : p → B) (b : ¬ p → A) : if (!decide p) = true then A else B := by
  by_cases h : p
  · rw [if_neg (by simp [h])]; exact a h
  · rw [if_pos (by simp [h])]; exact b h
end
theorem eqv_ints (u v : Int) : PyData.eqv (.tuple [.int u, .int v]) (.tuple [.int u, .int v]) = true := by simp [PyData.eqv, PyData.eqvAll]
/-! ### tests that may be weakened (for while) -/
def MonE (t : TE) : Prop := ∀ σ H (Q Q' : VK), (∀ v H1, Q v H1 → Q' v H1) → t σ H Q → t σ H Q'
def MonT (t : TT) : Prop := ∀ σ H (Q Q' : Bool → Hp → Prop), (∀ b H1, Q b H1 → Q' b H1) → t σ H Q → t σ H Q'
def MonA (t : TA) : Prop := ∀ σ H (Q Q' : List V → Hp → Prop), (∀ vs H1, Q vs H1 → Q' vs H1) → t σ H Q → t σ H Q'
def MonR (r : R2) : Prop := ∀ x y H (Q Q' : VK), (∀ v H1, Q v H1 → Q' v H1) → r x y H Q → r x y H Q'
theorem mon_var {i : Nat} : MonE (tVar i) := fun _ _ _ _ h ⟨v, e, q⟩ => ⟨v, e, h _ _ q⟩
theorem mon_c {v : V} : MonE (tC v) := fun _ _ _ _ h q => h _ _ q
theorem mon_op {r : R2} {a b : TE} (hr : MonR r) (ha : MonE a) (hb : MonE b) : MonE (tOp r a b) := fun σ _ _ _ h q => ha _ _ _ _ (fun x H1 q1 => hb _ _ _ _ (fun y H2 q2 => hr _ _ _ _ _ h q2) q1) q
theorem mon_I0 {g : Int → Int → V} : MonR (rI0 g) := fun _ _ _ _ _ h ⟨i, j, e1, e2, q⟩ => ⟨i, j, e1, e2, h _ _ q⟩
theorem mon_I {C : Int → Int → Prop} {g : Int → Int → V} : MonR (rI C g) := fun _ _ _ _ _ h ⟨i, j, e1, e2, c, q⟩ => ⟨i, j, e1, e2, c, h _ _ q⟩
theorem mon_eq : MonR rEq := fun _ _ _ _ _ h ⟨e, q⟩ => ⟨e, h _ _ q⟩
theorem mon_ne : MonR rNe := fun _ _ _ _ _ h ⟨e, q⟩ => ⟨e, h _ _ q⟩
theorem mon_ixL {K : PySem.W.Frag} : MonR (rIxL K) := fun _ _ _ _ _ h ⟨p, xs, i, v, e1, e2, s, a, q⟩ => ⟨p, xs, i, v, e1, e2, s, a, h _ _ q⟩
theorem mon_nil : MonA tNil := fun _ _ _ _ h q => h _ _ q
theorem mon_cons {a : TE} {t : TA} (ha : MonE a) (ht : MonA t) : MonA (tCons a t) := fun σ _ _ _ h q => ha _ _ _ _ (fun x H1 q1 => ht _ _ _ _ (fun xs H2 q2 => h _ _ q2) q1) q
theorem mon_len {K : PySem.W.Frag} {t : TA} (ht : MonA t) : MonE (tCB (rLen K) t) := fun σ _ _ _ h q => ht _ _ _ _ (fun vs H1 ⟨p, ys, e, s, q1⟩ => ⟨p, ys, e, s, h _ _ q1⟩) q
theorem mon_test {a : TE} (ha : MonE a) : MonT (tTest a) := fun σ _ _ _ h q => ha _ _ _ _ (fun x H1 ⟨k, e, q1⟩ => ⟨k, e, h _ _ q1⟩) q
theorem mon_and {a b : TT} (ha : MonT a) (hb : MonT b) : MonT (tAnd a b) := fun σ _ _ _ h q => ha _ _ _ _ (fun c H1 q1 => by
  cases c with
  | true => exact hb _ _ _ _ h q1
  | false => exact h _ _ q1) q
theorem whileM {D : Ends} {σ : L2.St} {H : Hp} {c : TT} {tb : TS} (m : MonT c) (Pv : L2.St → Hp → Prop) (μ : L2.St → Hp → Nat) (h0 : Pv σ H)
    (hs : ∀ σ H, Pv σ H → c σ H fun b H1 => if b = true then tb { D with nx := fun σ' H' => Pv σ' H' ∧ μ σ' H' < μ σ H, ct := fun σ' H' => Pv σ' H' ∧ μ σ' H' < μ σ H, bk := D.nx } σ H1 else D.nx σ H1) : tWhile c tb D σ H := while_by Pv μ h0 hs m
/-! ### data compared: lists and tuples of numbers -/
open PyData in
theorem depthAll_ints : ∀ ns : List Int, depthAll (ns.map PyData.int) ≤ 1
  | [] => by simp [depthAll]
  | n :: ns => by
    have := depthAll_ints ns
    simp only [List.map_cons, depthAll, depth]
    omega
open PyData in
theorem canLay_ints : ∀ ns : List Int, canLayAll0 (ns.map PyData.int) = true
  | [] => rfl
  | n :: ns => by simp [canLayAll0, canLay0, canLay_ints ns]
theorem shaped_ints (ns : List Int) : SeqAt.shaped (.list (ns.map .int)) = true := by
  have h := depthAll_ints ns
  have e : (PyData.list (ns.map .int)).depth = PyData.depthAll (ns.map .int) + 1 := by rw [PyData.depth]
  exact Bool.and_eq_true_iff.mpr ⟨by rw [PyData.canLay0]; exact canLay_ints ns, decide_eq_true (by rw [e]; omega)⟩
theorem shaped_intsT (ns : List Int) : SeqAt.shaped (.tuple (ns.map .int)) = true := by
  have h := depthAll_ints ns
  have e : (PyData.tuple (ns.map .int)).depth = PyData.depthAll (ns.map .int) + 1 := by rw [PyData.depth]
  exact Bool.and_eq_true_iff.mpr ⟨by rw [PyData.canLay0]; exact canLay_ints ns, decide_eq_true (by rw [e]; omega)⟩
open PyData in
theorem eqvAll_ints : ∀ ns ms : List Int, eqvAll (ns.map PyData.int) (ms.map PyData.int) = decide (ns = ms)
  | [], [] => rfl
  | [], _ :: _ => by simp [eqvAll]
  | _ :: _, [] => by simp [eqvAll]
  | n :: ns, m :: ms => by
    simp only [List.map_cons, eqvAll, eqv, eqvAll_ints ns ms]
    by_cases h : n = m <;> by_cases h2 : ns = ms <;> simp [h, h2]
theorem eqv_intsL (ns ms : List Int) : PyData.eqv (.list (ns.map .int)) (.list (ms.map .int)) = decide (ns = ms) := by rw [PyData.eqv, eqvAll_ints]
theorem eqv_intsT (ns ms : List Int) : PyData.eqv (.tuple (ns.map .int)) (.tuple (ms.map .int)) = decide (ns = ms) := by rw [PyData.eqv, eqvAll_ints]
theorem dp_all_ints {K : PySem.W.Frag} {H : Hp} : ∀ ns : List Int, DpAll K H (ns.map V.int) (ns.map .int)
  | [] => .nil
  | n :: ns => .cons (.int n) (dp_all_ints ns)
theorem dp_ints {K : PySem.W.Frag} {H : Hp} {a : Addr} {ns : List Int} (h : SqL K H a (ns.map V.int)) : Dp K H (.ref a) (.list (ns.map .int)) := .lst h (dp_all_ints ns)
theorem dp_intsT {K : PySem.W.Frag} {H : Hp} {a : Addr} {ns : List Int} (h : SqT K H a (ns.map V.int)) : Dp K H (.ref a) (.tuple (ns.map .int)) := .tup h (dp_all_ints ns)
/-- two lists of numbers compared -/
theorem s_eqL {K : PySem.W.Frag} {H : Hp} {Q : VK} {a b : Addr} {ns ms : List Int} (h1 : SqL K H a (ns.map V.int)) (h2 : SqL K H b (ms.map V.int)) (q : Q (.bl (decide (ns = ms))) H) : rEqD K (.ref a) (.ref b) H Q :=
  s_eqD (dp_ints h1) (dp_ints h2) (shaped_ints _) (shaped_ints _) (by rw [eqv_intsL]; exact q)
theorem s_neL {K : PySem.W.Frag} {H : Hp} {Q : VK} {a b : Addr} {ns ms : List Int} (h1 : SqL K H a (ns.map V.int)) (h2 : SqL K H b (ms.map V.int)) (q : Q (.bl (!decide (ns = ms))) H) : rNeD K (.ref a) (.ref b) H Q :=
  ⟨_, _, dp_ints h1, dp_ints h2, shaped_ints _, shaped_ints _, by rw [eqv_intsL]; exact q⟩
theorem s_eqT {K : PySem.W.Frag} {H : Hp} {Q : VK} {a b : Addr} {ns ms : List Int} (h1 : SqT K H a (ns.map V.int)) (h2 : SqT K H b (ms.map V.int)) (q : Q (.bl (decide (ns = ms))) H) : rEqD K (.ref a) (.ref b) H Q :=
  s_eqD (dp_intsT h1) (dp_intsT h2) (shaped_intsT _) (shaped_intsT _) (by rw [eqv_intsT]; exact q)
theorem s_neT {K : PySem.W.Frag} {H : Hp} {Q : VK} {a b : Addr} {ns ms : List Int} (h1 : SqT K H a (ns.map V.int)) (h2 : SqT K H b (ms.map V.int)) (q : Q (.bl (!decide (ns = ms))) H) : rNeD K (.ref a) (.ref b) H Q :=
  ⟨_, _, dp_intsT h1, dp_intsT h2, shaped_intsT _, shaped_intsT _, by rw [eqv_intsT]; exact q⟩
theorem rep_int (n k : Nat) (b : Int) : (List.replicate n [V.int b]).flatten = (List.replicate n b).map V.int := by induction n <;> simp_all [List.replicate_succ]
theorem get_int {ns : List Int} {i : Nat} (h : i < ns.length) : (ns.map V.int)[i]? = some (V.int ns[i]) := by simp [h]
/-- what a call left behind: a new thing that stands still from now on -/
theorem Stp.got {S : Addr → Prop} {F H H' : Hp} {p : Addr} {o : HO} (h : Same F H) (s : Same H H') (hn : H p = none) (hp : H' p = some o) : Stp S F H (upd F p o) H' := by
  have fp : F p = none := h.free hn
  refine ⟨fun b u e => by rw [upd_ne (ne_of_none e fp)]; exact e, fun b u e => ?_, fun b u e => by rw [upd_ne (ne_of_none e hn)], fun b u _ e => s b u e, fun b u e => ⟨u, s b u e⟩⟩
  by_cases q : b = p
  · subst q; rw [upd_same] at e; cases e; exact hp
  · rw [upd_ne q] at e; exact s b u (h b u e)
open PyData in
theorem depthAll_bools : ∀ ns : List Bool, depthAll (ns.map PyData.bool) ≤ 1
  | [] => by simp [depthAll]
  | n :: ns => by
    have := depthAll_bools ns
    simp only [List.map_cons, depthAll, depth]
    omega
open PyData in
theorem canLay_bools : ∀ ns : List Bool, canLayAll0 (ns.map PyData.bool) = true
  | [] => rfl
  | n :: ns => by simp [canLayAll0, canLay0, canLay_bools ns]
theorem shaped_bools (ns : List Bool) : SeqAt.shaped (.list (ns.map .bool)) = true := by
  have h := depthAll_bools ns
  have e : (PyData.list (ns.map .bool)).depth = PyData.depthAll (ns.map .bool) + 1 := by rw [PyData.depth]
  exact Bool.and_eq_true_iff.mpr ⟨by rw [PyData.canLay0]; exact canLay_bools ns, decide_eq_true (by rw [e]; omega)⟩
open PyData in
theorem eqvAll_bools : ∀ ns ms : List Bool, eqvAll (ns.map PyData.bool) (ms.map PyData.bool) = decide (ns = ms)
  | [], [] => rfl
  | [], _ :: _ => by simp [eqvAll]
  | _ :: _, [] => by simp [eqvAll]
  | n :: ns, m :: ms => by
    simp only [List.map_cons, eqvAll, eqv, eqvAll_bools ns ms]
    by_cases h : n = m <;> by_cases h2 : ns = ms <;> simp [h, h2]
theorem eqv_boolsL (ns ms : List Bool) : PyData.eqv (.list (ns.map .bool)) (.list (ms.map .bool)) = decide (ns = ms) := by rw [PyData.eqv, eqvAll_bools]
theorem dp_all_bools {K : PySem.W.Frag} {H : Hp} : ∀ ns : List Bool, DpAll K H (ns.map V.bl) (ns.map .bool)
  | [] => .nil
  | n :: ns => .cons (.bl n) (dp_all_bools ns)
theorem dp_bools {K : PySem.W.Frag} {H : Hp} {a : Addr} {ns : List Bool} (h : SqL K H a (ns.map V.bl)) : Dp K H (.ref a) (.list (ns.map .bool)) := .lst h (dp_all_bools ns)
theorem s_neB {K : PySem.W.Frag} {H : Hp} {Q : VK} {a b : Addr} {ns ms : List Bool} (h1 : SqL K H a (ns.map V.bl)) (h2 : SqL K H b (ms.map V.bl)) (q : Q (.bl (!decide (ns = ms))) H) : rNeD K (.ref a) (.ref b) H Q :=
  ⟨_, _, dp_bools h1, dp_bools h2, shaped_bools _, shaped_bools _, by rw [eqv_boolsL]; exact q⟩
theorem eqV_int (i j : Int) : eqV (.int i) (.int j) = decide (i = j) := by
  show (i == j) = decide (i = j)
  by_cases h : i = j <;> simp [h]
theorem inV_ints (x : Int) (ns : List Int) : inV (.int x) (ns.map V.int) = decide (x ∈ ns) := by
  unfold inV
  induction ns with
  | nil => simp
  | cons n ns ih =>
    rw [List.map_cons, List.any_cons, ih, eqV_int]
    by_cases h : n = x
    · subst h; simp
    · by_cases h2 : x ∈ ns
      · simp [h2]
      · have : ¬ x = n := fun z => h z.symm
        simp [h, h2, this]
theorem flat_ints (ns : List Int) : (ns.map V.int).all flatV = true := by
  rw [List.all_eq_true]; intro v hv
  obtain ⟨n, _, rfl⟩ := List.mem_map.mp hv
  rfl
/-- a number in a list of numbers -/
theorem s_inI {K : PySem.W.Frag} {H : Hp} {Q : VK} {a : Addr} {ns : List Int} {x : Int} (h : SqL K H a (ns.map V.int)) (q : Q (.bl (decide (x ∈ ns))) H) : rIn K false (.int x) (.ref a) H Q :=
  ⟨a, _, rfl, .inl h, rfl, flat_ints ns, by rw [if_neg (by decide), inV_ints]; exact q⟩
theorem cutV_nat (xs : List V) (i j : Nat) : cutV xs (some (i : Int)) (some (j : Int)) = (xs.drop i).take (j - i) := by
  unfold cutV
  rw [HT.sIx_nat, HT.sIx_nat]
  by_cases h : i ≤ xs.length
  · rw [Nat.min_eq_left h]
    by_cases h2 : j ≤ xs.length
    · rw [Nat.min_eq_left h2]
    · rw [Nat.min_eq_right (by omega), List.take_of_length_le (by simp), List.take_of_length_le (by simp; omega)]
  · rw [Nat.min_eq_right (show xs.length ≤ i by omega), List.drop_of_length_le (Nat.le_refl _), List.drop_of_length_le (by omega)]; simp
theorem cutV_from (xs : List V) (i : Nat) : cutV xs (some (i : Int)) none = xs.drop i := by
  unfold cutV
  rw [HT.sIx_nat, HT.sIx_none]
  by_cases h : i ≤ xs.length
  · rw [Nat.min_eq_left h, List.take_of_length_le (by simp)]
  · rw [Nat.min_eq_right (by omega), List.drop_of_length_le (by omega), List.drop_of_length_le (by omega)]; simp
theorem cutV_to (xs : List V) (j : Nat) : cutV xs none (some (j : Int)) = xs.take j := by
  unfold cutV
  rw [HT.sIx_nat, HT.sIx_none]
  by_cases h2 : j ≤ xs.length
  · rw [Nat.min_eq_left h2]; simp
  · rw [Nat.min_eq_right (by omega), List.take_of_length_le (by simp), List.take_of_length_le (by omega)]; simp
/-- values without parts, as data -/
def toD : V → PyData
  | .bl b => .bool b
  | .int i => .int i
  | .str s => .str s
  | _ => .none
def flatW (v : V) : Bool := match v with
  | .non => true
  | .bl _ => true
  | .int _ => true
  | .str s => PyData.strOk s
  | _ => false
theorem dp_flat {K : PySem.W.Frag} {H : Hp} {v : V} (h : flatW v = true) : Dp K H v (toD v) := by
  cases v with
  | non => exact .non
  | bl b => exact .bl b
  | int i => exact .int i
  | str s => exact .str s
  | _ => cases h
theorem dp_flats {K : PySem.W.Frag} {H : Hp} : ∀ {vs : List V}, vs.all flatW = true → DpAll K H vs (vs.map toD)
  | [], _ => .nil
  | v :: vs, h => by
    rw [List.all_cons, Bool.and_eq_true] at h
    exact .cons (dp_flat h.1) (dp_flats h.2)
open PyData in
theorem depthAll_flat : ∀ vs : List V, depthAll (vs.map toD) ≤ 1
  | [] => by simp [depthAll]
  | n :: ns => by
    have := depthAll_flat ns
    have e : depth (toD n) = 0 := by cases n <;> simp [toD, depth]
    simp only [List.map_cons, depthAll, e]
    omega
open PyData in
theorem canLay_flat : ∀ vs : List V, vs.all flatW = true → canLayAll0 (vs.map toD) = true
  | [], _ => rfl
  | n :: ns, h => by
    rw [List.all_cons, Bool.and_eq_true] at h
    have e : canLay0 (toD n) = true := by
      cases n with
      | str s => exact h.1
      | _ => rfl
    simp [canLayAll0, e, canLay_flat ns h.2]
theorem shaped_flatT {vs : List V} (h : vs.all flatW = true) : SeqAt.shaped (.tuple (vs.map toD)) = true := by
  have h1 := depthAll_flat vs
  have e : (PyData.tuple (vs.map toD)).depth = PyData.depthAll (vs.map toD) + 1 := by rw [PyData.depth]
  exact Bool.and_eq_true_iff.mpr ⟨by rw [PyData.canLay0]; exact canLay_flat vs h, decide_eq_true (by rw [e]; omega)⟩
/-- two equal tuples compared -/
theorem s_neTs {K : PySem.W.Frag} {H : Hp} {Q : VK} {a b : Addr} {vs : List V} (h1 : SqT K H a vs) (h2 : SqT K H b vs) (f : vs.all flatW = true) (q : Q (.bl false) H) : rNeD K (.ref a) (.ref b) H Q :=
  ⟨_, _, .tup h1 (dp_flats f), .tup h2 (dp_flats f), shaped_flatT f, shaped_flatT f, by rw [SeqAt.eqv_refl _ (SeqAt.canLay_of_shaped (shaped_flatT f))]; exact q⟩
theorem s_eqTs {K : PySem.W.Frag} {H : Hp} {Q : VK} {a b : Addr} {vs : List V} (h1 : SqT K H a vs) (h2 : SqT K H b vs) (f : vs.all flatW = true) (q : Q (.bl true) H) : rEqD K (.ref a) (.ref b) H Q :=
  ⟨_, _, .tup h1 (dp_flats f), .tup h2 (dp_flats f), shaped_flatT f, shaped_flatT f, by rw [SeqAt.eqv_refl _ (SeqAt.canLay_of_shaped (shaped_flatT f))]; exact q⟩
/-- a written list of one thing, so many times -/
theorem s_rep {H : Hp} {Q : VK} {l : Addr} {v : V} {k : Int} (h : H l = some (.lst [v])) (k1 : k ≤ 100000) (k0 : -100000 ≤ k) (q : ∀ p, H p = none → Q (.ref p) (upd H p (.lst (List.replicate k.toNat v)))) : rRep (.ref l) (.int k) H Q := by
  have e : (List.replicate k.toNat [v]).flatten = List.replicate k.toNat v := by
    generalize k.toNat = n
    induction n with
    | zero => rfl
    | succ n ih => rw [List.replicate_succ, List.flatten_cons, ih]; rfl
  have hz : 1 * k.toNat ≤ sizeLine := by rw [Nat.one_mul]; exact sz (by omega)
  exact ⟨l, k, [v], rfl, rfl, h, by omega, by omega, hz, fun p hp => by rw [e]; exact q p hp⟩
/-- lists of lists of numbers -/
def RowV (K : PySem.W.Frag) (H : Hp) (v : V) (l : List Int) : Prop := ∃ a, v = .ref a ∧ SqL K H a (l.map V.int)
inductive RowsV (K : PySem.W.Frag) (H : Hp) : List V → List (List Int) → Prop
  | nil : RowsV K H [] []
  | cons {v : V} {vs : List V} {l : List Int} {ls : List (List Int)} : RowV K H v l → RowsV K H vs ls → RowsV K H (v :: vs) (l :: ls)
theorem RowsV.dp {K : PySem.W.Frag} {H : Hp} : ∀ {vs : List V} {ls : List (List Int)}, RowsV K H vs ls → DpAll K H vs (ls.map fun l => .list (l.map .int))
  | _, _, .nil => .nil
  | _, _, .cons ⟨a, e, h⟩ r => .cons (e ▸ dp_ints h) r.dp
open PyData in
theorem depthAll_rows : ∀ ls : List (List Int), depthAll (ls.map fun l => PyData.list (l.map .int)) ≤ 2
  | [] => by simp [depthAll]
  | l :: ls => by
    have h1 := depthAll_rows ls
    have h2 := depthAll_ints l
    simp only [List.map_cons, depthAll, depth]
    omega
open PyData in
theorem canLay_rows : ∀ ls : List (List Int), canLayAll0 (ls.map fun l => PyData.list (l.map .int)) = true
  | [] => rfl
  | l :: ls => by simp [canLayAll0, canLay0, canLay_ints, canLay_rows ls]
theorem shaped_rows (ls : List (List Int)) : SeqAt.shaped (.list (ls.map fun l => .list (l.map .int))) = true := by
  have h := depthAll_rows ls
  have e : (PyData.list (ls.map fun l => PyData.list (l.map .int))).depth = PyData.depthAll (ls.map fun l => PyData.list (l.map .int)) + 1 := by rw [PyData.depth]
  exact Bool.and_eq_true_iff.mpr ⟨by rw [PyData.canLay0]; exact canLay_rows ls, decide_eq_true (by rw [e]; omega)⟩
theorem s_eqRows {K : PySem.W.Frag} {H : Hp} {Q : VK} {a b : Addr} {xs ys : List V} {ls : List (List Int)} (h1 : SqL K H a xs) (h2 : SqL K H b ys) (r1 : RowsV K H xs ls) (r2 : RowsV K H ys ls) (q : Q (.bl true) H) : rEqD K (.ref a) (.ref b) H Q :=
  s_eqD (.lst h1 r1.dp) (.lst h2 r2.dp) (shaped_rows ls) (shaped_rows ls) (by rw [SeqAt.eqv_refl _ (SeqAt.canLay_of_shaped (shaped_rows ls))]; exact q)
theorem s_neRows {K : PySem.W.Frag} {H : Hp} {Q : VK} {a b : Addr} {xs ys : List V} {ls : List (List Int)} (h1 : SqL K H a xs) (h2 : SqL K H b ys) (r1 : RowsV K H xs ls) (r2 : RowsV K H ys ls) (q : Q (.bl false) H) : rNeD K (.ref a) (.ref b) H Q :=
  ⟨_, _, .lst h1 r1.dp, .lst h2 r2.dp, shaped_rows ls, shaped_rows ls, by rw [SeqAt.eqv_refl _ (SeqAt.canLay_of_shaped (shaped_rows ls))]; exact q⟩
/-- lists of flat tuples -/
def TupV (K : PySem.W.Frag) (H : Hp) (v : V) (l : List V) : Prop := ∃ a, v = .ref a ∧ SqT K H a l ∧ l.all flatW = true
inductive TupsV (K : PySem.W.Frag) (H : Hp) : List V → List (List V) → Prop
  | nil : TupsV K H [] []
  | cons {v : V} {vs : List V} {l : List V} {ls : List (List V)} : TupV K H v l → TupsV K H vs ls → TupsV K H (v :: vs) (l :: ls)
theorem TupsV.dp {K : PySem.W.Frag} {H : Hp} : ∀ {vs : List V} {ls : List (List V)}, TupsV K H vs ls → DpAll K H vs (ls.map fun l => .tuple (l.map toD))
  | _, _, .nil => .nil
  | _, _, .cons ⟨_, e, h, f⟩ r => .cons (e ▸ .tup h (dp_flats f)) r.dp
open PyData in
theorem depthAll_tups : ∀ ls : List (List V), depthAll (ls.map fun l => PyData.tuple (l.map toD)) ≤ 2
  | [] => by simp [depthAll]
  | l :: ls => by
    have h1 := depthAll_tups ls
    have h2 := depthAll_flat l
    simp only [List.map_cons, depthAll, depth]
    omega
open PyData in
theorem canLay_tups {K : PySem.W.Frag} {H : Hp} : ∀ {vs : List V} {ls : List (List V)}, TupsV K H vs ls → canLayAll0 (ls.map fun l => PyData.tuple (l.map toD)) = true
  | _, _, .nil => rfl
  | _, _, .cons ⟨_, _, _, f⟩ r => by simp [canLayAll0, canLay0, canLay_flat _ f, canLay_tups r]
theorem shaped_tups {K : PySem.W.Frag} {H : Hp} {vs : List V} {ls : List (List V)} (r : TupsV K H vs ls) : SeqAt.shaped (.list (ls.map fun l => .tuple (l.map toD))) = true := by
  have h := depthAll_tups ls
  have e : (PyData.list (ls.map fun l => PyData.tuple (l.map toD))).depth = PyData.depthAll (ls.map fun l => PyData.tuple (l.map toD)) + 1 := by rw [PyData.depth]
  exact Bool.and_eq_true_iff.mpr ⟨by rw [PyData.canLay0]; exact canLay_tups r, decide_eq_true (by rw [e]; omega)⟩
theorem s_eqTups {K : PySem.W.Frag} {H : Hp} {Q : VK} {a b : Addr} {xs ys : List V} {ls : List (List V)} (h1 : SqL K H a xs) (h2 : SqL K H b ys) (r1 : TupsV K H xs ls) (r2 : TupsV K H ys ls) (q : Q (.bl true) H) : rEqD K (.ref a) (.ref b) H Q :=
  s_eqD (.lst h1 r1.dp) (.lst h2 r2.dp) (shaped_tups r1) (shaped_tups r2) (by rw [SeqAt.eqv_refl _ (SeqAt.canLay_of_shaped (shaped_tups r1))]; exact q)
theorem s_neTups {K : PySem.W.Frag} {H : Hp} {Q : VK} {a b : Addr} {xs ys : List V} {ls : List (List V)} (h1 : SqL K H a xs) (h2 : SqL K H b ys) (r1 : TupsV K H xs ls) (r2 : TupsV K H ys ls) (q : Q (.bl false) H) : rNeD K (.ref a) (.ref b) H Q :=
  ⟨_, _, .lst h1 r1.dp, .lst h2 r2.dp, shaped_tups r1, shaped_tups r2, by rw [SeqAt.eqv_refl _ (SeqAt.canLay_of_shaped (shaped_tups r1))]; exact q⟩
/-! ### a list to draw from: [a great number, a number that is stirred] -/
def Src (F H : Hp) (p : Addr) : Prop := Same F H ∧ F p = none ∧ ∃ a b : Int, H p = some (.lst [.int a, .int b]) ∧ 0 ≤ b ∧ b < 2147483647
theorem Src.of {F H H' : Hp} {p : Addr} (h : Src F H p) (s : Same H H') : Src F H' p := let ⟨a, b, x, y, e, z⟩ := h; ⟨a.trans s, b, x, y, s _ _ e, z⟩
theorem Src.wr {F H : Hp} {p : Addr} {x y : Int} (h : Src F H p) (y0 : 0 ≤ y) (y1 : y < 2147483647) : Src F (upd H p (.lst [.int x, .int y])) p :=
  ⟨(Stp.wr (S := S1 p) h.1 rfl h.2.1).fh, h.2.1, x, y, upd_same, y0, y1⟩
theorem Src.weak {F F' H : Hp} {p : Addr} (h : Src F' H p) (s : Same F F') : Src F H p := let ⟨a, b, x⟩ := h; ⟨s.trans a, s.free b, x⟩
theorem Src.new {F H : Hp} {p q : Addr} {o : HO} (h : Src F H p) (hq : H q = none) : Src (upd F q o) (upd H q o) p := by
  obtain ⟨a, b, x, y, e, z⟩ := h
  have n : p ≠ q := ne_of_none e hq
  exact ⟨(Stp.new (S := S0) a hq).fh, by rw [upd_ne n]; exact b, x, y, by rw [upd_ne n]; exact e, z⟩
/-- a cell beside it is written -/
theorem Src.upd {F H : Hp} {p q : Addr} {o : HO} (h : Src F H p) (n : q ≠ p) (fq : F q = none) : Src F (upd H q o) p := by
  obtain ⟨a, b, x, y, e, z⟩ := h
  exact ⟨(Stp.wr (S := S1 q) a rfl fq).fh, b, x, y, by rw [upd_ne n.symm]; exact e, z⟩
theorem Src.dom {F H : Hp} {p : Addr} (h : Src F H p) : ∃ o, H p = some o := let ⟨_, _, x, y, e, _⟩ := h; ⟨_, e⟩
theorem Src.frz {F H : Hp} {p d : Addr} {o : HO} (h : Src F H p) (n : p ≠ d) (fh : Same (L2.upd F d o) H) : Src (L2.upd F d o) H p := by
  obtain ⟨a, b, x, y, e, z⟩ := h
  exact ⟨fh, by rw [upd_ne n]; exact b, x, y, e, z⟩
theorem Src.ne {F H : Hp} {p d : Addr} (h : Src F H p) (hd : H d = none) : p ≠ d := by
  obtain ⟨o, e⟩ := h.dom
  exact ne_of_none e hd
/-- behind a draw: what stands beside the cell is as it was -/
def Drawn (p : Addr) (F H H' : Hp) : Prop := Src F H' p ∧ Stp (S1 p) F H F H'
section ExcS
open PyProof.Rows
/-! ### own exception classes -/
def exA (mg : Str → Option Value) (x : Str) : Addr := match mg x with
  | some (.ref a) => a
  | _ => 0
theorem exA_of {mg : Str → Option Value} {x : Str} {a : Addr} (h : mg x = some (.ref a)) : exA mg x = a := by unfold exA; rw [h]
structure ExF (K : PySem.W.Frag) (mg : Str → Option Value) (nm : Str) : Prop where
  g : mg nm = some (.ref (exA mg nm))
  x : PySem.W.excIn K (exA mg nm) [.type "ValueError", .type "Exception", .type "BaseException", .type "object"] "ValueError.__new__" = true
  k : PySem.W.keepIn K (.ref (exA mg nm)) = true
  b : PySem.W.subIn K (.ref (exA mg nm)) (.type "BaseException") = some true
  t : PySem.W.typeIn K (.ref (exA mg nm)) = some (.type "type")
  c : ExcC K (exA mg nm)
theorem ExF.mk' {K : PySem.W.Frag} {mg : Str → Option Value} {nm : Str} {C : Addr} (g : mg nm = some (.ref C))
    (x : PySem.W.excIn K C [.type "ValueError", .type "Exception", .type "BaseException", .type "object"] "ValueError.__new__" = true) (k : PySem.W.keepIn K (.ref C) = true)
    (b : PySem.W.subIn K (.ref C) (.type "BaseException") = some true) (t : PySem.W.typeIn K (.ref C) = some (.type "type"))
    (hg : PySem.W.findIn K (.ref C) "__getattribute__" = some (some (.builtin "BaseException.__getattribute__")))
    (hk : PySem.W.findIn K (.ref C) "__getattr__" = some none)
    (hd : PySem.W.hasDictIn K C = true)
    (ha : PySem.W.findIn K (.ref C) "__class__" = some (some (.builtin "object.__class__")))
    (hn : PySem.W.specialIn K (.builtin "object.__class__") "__get__" = some (some (.builtin "getset_descriptor.__get__")))
    (ht : PySem.W.takesIn K (.builtin "object.__class__") = some true)
    (hm : PySem.W.mroIn K C (.type "object") = some true) : ExF K mg nm := by
  have e := exA_of g
  exact ⟨by rw [e]; exact g, by rw [e]; exact x, by rw [e]; exact k, by rw [e]; exact b, by rw [e]; exact t, by rw [e]; exact ⟨hg, hk, b, hd, ha, hn, ht, hm⟩⟩
theorem ExF.exm {K : PySem.W.Frag} {mg : Str → Option Value} {nm : Str} (h : ExF K mg nm) {cls : Value} {b : Bool} (s : PySem.W.subIn K cls (.ref (exA mg nm)) = some b) : PySem.W.exmOne K cls (.ref (exA mg nm)) = some b := PySem.W.exm_ref h.b h.c.hd h.t s
section
variable {X : Cx} {C : Addr} {bmB : List Value} {B newId initId : String}
open PySem.W in
/-- isinstance against an own class, by the order of the classes -/
theorem kit_own {K : Frag} {a C : Addr} {b : Bool} (hd : hasDictIn K C = true) (ht : typeIn K (.ref C) = some (.type "type")) (h : subIn K (.ref a) (.ref C) = some b) (s : subIn K (.ref a) (.ref a) = some true) : kitOne K (.ref a) (.ref C) = some b := by
  obtain ⟨cd, hc, _⟩ := any_some hd
  have e2 : ((clsIn K C).isSome && typeIn K (.ref C) == some (.type "type")) = true := by rw [hc, ht]; rfl
  unfold kitOne
  by_cases q : a = C
  · subst q
    rw [if_pos (by simp), ← h, s]
  · rw [if_neg (by simpa using q)]
    show (if ((clsIn K C).isSome && typeIn K (.ref C) == some (.type "type")) = true then subIn K (.ref a) (.ref C) else none) = some b
    rw [if_pos e2, h]
open PySem.W in
theorem kit_val {K : Frag} {a : Addr} (h : subIn K (.ref a) (.type "ValueError") = some true) : kitOne K (.ref a) (.type "ValueError") = some true := by
  unfold kitOne
  rw [if_neg (by simp)]
  show (if kitMeta "ValueError" = true then subIn K (.ref a) (.type "ValueError") else none) = some true
  rw [if_pos (by decide +kernel), h]
/-- X() -/
theorem pmk_own0 {x : Str} {p pos : Pos} (F : ExcBaseFacts B newId initId bmB) (q : PySem.W.excIn X.K C bmB newId = true) (gC : X.mg x = some (.ref C)) (kC : PySem.W.keepIn X.K (.ref C) = true) (r : Raises X (.ref C)) (hg : Gl X x)
    (hdb : (x == ("__debug__" : Str)) = false := by decide) : PMk X (.Call (.Name x p) [] [] pos) (fun _ H Q => Q (.ref C) none H) := by
  intro pins s σ H Q I h
  refine wpAny_Call_Name_kw (ld_glob I hg gC ?_ hdb)
  refine PySem.W.callWith_K0 I.kIn kC ?_
  obtain ⟨bm, N, nm, qn, bs, hdct, sn, sub, ab, col, dd, k0, k1, k2, k3, k5, mN, hC, hN, hni, T⟩ := exc_obj I.kIn q
  exact wpAny_call_exc_subT F T hC hN hni (fun h' e hm => mk_of I hm r h (I.hok.gone hm.new)) (Nat.zero_le _)
end
/-- isinstance(e, c) in an except suite: e's class is known in the reading -/
def rIsX (K : PySem.W.Frag) (a : Addr) (cls : Value) (d : Option Addr) : List V → Hp → VK → Prop := fun xs H Q => ∃ D, cls = .ref D ∧ d = none ∧ ExcC K D ∧ rIsE K D a xs H Q
theorem call_isX {X : Cx} (K : PySem.W.Frag) (eK : X.K = K) {a : Addr} {cls : Value} {d : Option Addr} {oe : Obj} {pn : List (Addr × Obj)} (hz : Zc cls d oe) (hf : ∃ vs, oe.data = .fields vs) : CallR (X.suite a ((a, oe) :: pn)) (.builtin "isinstance") (rIsX K a cls d) := by
  subst eK
  intro pins s σ H vs us Q I r h
  obtain ⟨D, rfl, rfl, C, q⟩ := h
  exact call_isE C hz hf pins s σ H vs us Q I r q
theorem s_isX {K : PySem.W.Frag} {a D C : Addr} {b : Bool} {H : Hp} {Q : VK} (c : ExcC K D) (k : PySem.W.kitOne K (.ref D) (.ref C) = some b) (q : Q (.bl b) H) : rIsX K a (.ref D) none [.ref a, .ref C] H Q :=
  ⟨D, rfl, rfl, c, .ref C, .ref C, b, rfl, fun _ r => r, k, q⟩
theorem s_isXt {K : PySem.W.Frag} {a D : Addr} {n : String} {b : Bool} {H : Hp} {Q : VK} (c : ExcC K D) (k : PySem.W.kitOne K (.ref D) (.type n) = some b) (q : Q (.bl b) H) : rIsX K a (.ref D) none [.ref a, .ty n] H Q :=
  ⟨D, rfl, rfl, c, .ty n, .type n, b, rfl, fun _ r => r, k, q⟩
theorem s_callS {sp : Sp} {E : L2.St → XK} {t : TA} {σ : L2.St} {H : Hp} {Q : VK} (h : t σ H fun vs H1 => sp vs H1 Q (E σ)) : tCallS sp E t σ H Q := h
theorem cx_none {P : Program} {w : World} {H : Hp} {s : Shared} {e : Value} {s' : Shared} (h : L2.CX P w [] H s (fun _ _ _ => False) e s') : False := by
  obtain ⟨_, _, _, _, _, _, _, _, _, _, _, _, z⟩ := h
  exact z
end ExcS
/-! ### several clauses behind a try, each with a name or without -/
section HandsS
open PySem.Spec PyProof.Rows
def goneD (i : Nat) (D : Ends) : Ends := ⟨fun σ H => D.nx (σ.set i none) H, D.rt, fun σ H => D.bk (σ.set i none) H, fun σ H => D.ct (σ.set i none) H⟩
/-- what the clauses want of an error: the first whose class fits takes it -/
def wH (K : PySem.W.Frag) (out : WX) (D : Ends) : List (Value × Option Nat × (Addr → Value → Option Addr → TS)) → WX
  | [] => out
  | (c, none, ts) :: r => fun cls d σ H => ∃ b, PySem.W.exmOne K cls c = some b ∧ (b = true → ∀ a, H a = none → ts a cls d D σ H) ∧ (b = false → wH K out D r cls d σ H)
  | (c, some i, ts) :: r => fun cls d σ H => ∃ b, PySem.W.exmOne K cls c = some b ∧ (b = true → ∀ a, H a = none → ts a cls d (goneD i D) (σ.set i (some (.ref a))) H) ∧ (b = false → wH K out D r cls d σ H)
inductive HOks (X : Cx) : List ExceptHandler → List (Value × Option Nat × (Addr → Value → Option Addr → TS)) → Prop
  | nil : HOks X [] []
  | anon {x : Str} {c : Value} {ts : Addr → Value → Option Addr → TS} {b₀ : Stmt} {suite : List Stmt} {np pos : Pos} {hds : List ExceptHandler} {l : List (Value × Option Nat × (Addr → Value → Option Addr → TS))} (hc : Names X x c)
      (hsu : ∀ (a : Addr) (oe : Obj) (cls : Value) (d : Option Addr) (pn : List (Addr × Obj)), Zc cls d oe → (∃ vs, oe.data = .fields vs) → PSs (X.suite a ((a, oe) :: pn)) (b₀ :: suite) (ts a cls d)) (r : HOks X hds l) :
      HOks X (.ExceptHandler (some (.Name x np)) none (b₀ :: suite) pos :: hds) ((c, none, ts) :: l)
  | named {x n : Str} {i : Nat} {c : Value} {ts : Addr → Value → Option Addr → TS} {b₀ : Stmt} {suite : List Stmt} {np pos : Pos} {hds : List ExceptHandler} {l : List (Value × Option Nat × (Addr → Value → Option Addr → TS))}
      (hi : X.N[i]? = some n) (hln : X.env.kindOf n = some .local) (hc : Names X x c)
      (hsu : ∀ (a : Addr) (oe : Obj) (cls : Value) (d : Option Addr) (pn : List (Addr × Obj)), Zc cls d oe → (∃ vs, oe.data = .fields vs) → PSs (X.suite a ((a, oe) :: pn)) (b₀ :: suite) (ts a cls d)) (r : HOks X hds l) :
      HOks X (.ExceptHandler (some (.Name x np)) (some n) (b₀ :: suite) pos :: hds) ((c, some i, ts) :: l)
/-- an error that has come down to the frame of a try -/
structure Down (X : Cx) (pins : List (Addr × Obj)) (σ : L2.St) (H : Hp) (cls : Value) (d : Option Addr) (a : Addr) (B : Heap) (sI s : Shared) : Prop where
  at0 : L2.Inv X pins σ H sI
  nb : ∀ (b : Addr) (o : Obj), sI.heap.get? b = some o → ¬ b ∈ frs X.stack → B.get? b = some o
  up : sI.heap.UpToSlots s.heap
  os : s.os = sI.os
  ag : AllBare s.gens
  na : H a = none
  fl : HandSPX.FlyingZ B (X.env :: X.outer) a (Zc cls d) s.heap
variable {X : Cx} {pins : List (Addr × Obj)} {σ : L2.St} {H : Hp} {cls : Value} {d : Option Addr} {a : Addr} {B : Heap} {sI s : Shared}
theorem Down.inv (D : Down X pins σ H cls d a B sI s) : L2.Inv X pins σ H s := D.at0.landed D.nb D.fl.1 D.up D.os D.ag
theorem Down.obj (D : Down X pins σ H cls d a B sI s) (hf : X.env.frame = some X.env.locals) :
    ∃ oe vs, s.heap.get? a = some oe ∧ Zc cls d oe ∧ oe.data = Data.fields vs ∧ L2.Inv (X.suite a ((a, oe) :: (X.pn ++ pins))) [] σ H s := by
  obtain ⟨oe, vs, e, z, dd⟩ := D.fl.there
  have off : a ∉ frs (X.env :: X.outer) := fun hm => by
    obtain ⟨_, o, e', no⟩ := D.fl.2.2.1.mem hm
    rw [e] at e'
    exact no vs ((Option.some.inj e') ▸ dd)
  have n1 : a ≠ X.env.locals := fun z => off (List.mem_filterMap.mpr ⟨X.env, by simp, by rw [hf, z]⟩)
  have n2 : a ∉ X.fs := fun hm => off (by
    obtain ⟨v, hv, q⟩ := List.mem_filterMap.mp hm
    exact List.mem_filterMap.mpr ⟨v, by simp [hv], q⟩)
  exact ⟨oe, vs, e, z, dd, D.inv.suite e dd D.na n1 n2⟩
theorem Down.next (D : Down X pins σ H cls d a B sI s) {h' : Heap} (f : HandSPX.FlyingZ B (X.env :: X.outer) a (Zc cls d) h') (u : s.heap.UpToSlots h') : Down X pins σ H cls d a B sI { s with heap := h' } :=
  ⟨D.at0, D.nb, D.up.trans u, D.os, D.ag, D.na, f⟩
theorem Down.hands (D : Down X pins σ H cls d a B sI s) {W : WX} {E : Ends} (hs : X.stack = X.env :: X.outer) (hf : X.env.frame = some X.env.locals) (hN : X.N.Nodup) (tk : Takes X W) (ok : X.Ok) {hds : List ExceptHandler} {l : List (Value × Option Nat × (Addr → Value → Option Addr → TS))}
    (hh : HOks X hds l) (w : wH X.K W E l cls d σ H) : wpAny (model X.prog X.w) X.A (handleBy (.ref a) X.env hds) (SP X pins E) X.xe s := by
  induction hh with
  | nil =>
    refine wpAny_handleBy_nil ?_
    obtain ⟨_, _, _, oe, vs, T, oT, ts, he, _, hd, h1, _⟩ := id D.fl
    unfold PySem.passOn
    refine wpAny_bind (wpAny_field he hd h1 ?_)
    rw [if_neg (show ¬ ((Value.ref T == Value.none) = true) from by simp)]
    have out : wpAny (model X.prog X.w) X.A (setFlight (.ref a) X.env.frame) (fun _ s4 => wpAny (model X.prog X.w) X.A (throw (.ref a) : Sem Flow) (SP X pins E) X.xe s4) X.xe s := by
      rw [hf]
      exact HandSPX.setFlight_upZ D.fl fun h4 hh4 u4 => wpAny_throw (tk _ _ ⟨a, B, sI, pins, σ, H, cls, d, rfl, D.at0, D.nb, D.up.trans u4, .inr (.inr (by rw [hs]; exact hh4)), D.na, D.os, D.ag, w⟩)
    first
      | exact wpAny_bind (wpAny_pure (wpAny_bind out))
      | exact wpAny_bind out
  | @anon x c ts b₀ suite np pos hds l hc hsu r ih =>
    obtain ⟨b, e1, yes, no⟩ := w
    obtain ⟨oe, vs, he, hz, _, S⟩ := D.obj hf
    refine wpAny_handleBy_cons (codeAny_handlers_test ?_) (by intro q; cases q)
    have ty : PySem.W.Looks (model X.prog X.w) s.heap (typeOf (.ref a)) cls := fun _ _ _ _ k q => wpAny_typeOf_ref (k _ _ he) (by rw [hz.1]; exact q)
    have fits := PySem.W.exm_one (M := model X.prog X.w) D.inv.kIn ty e1
    have name : ∀ {Q E : Value → Shared → Prop}, Q c s → wpAny (model X.prog X.w) (X.A.mark (some (.ref a))) (eval (.Name x np) X.env) Q E s := fun {Q E} q => by
      obtain ⟨g1, g2, g3 | ⟨g3, g4, g5⟩⟩ := hc
      · exact ld_glob (X := X.suite a ((a, oe) :: (X.pn ++ pins))) S g1 g3 q g2
      · exact ld_blt (X := X.suite a ((a, oe) :: (X.pn ++ pins))) S g1 g3 g4 q g5 g2
    refine name (fits.here ?_)
    cases b with
    | false => exact ih (no rfl)
    | true =>
      refine codeAny_handlers_suite (HandSPX.lands_againZ D.fl fun h4 f4 u4 => ?_)
      obtain ⟨oe4, vs4, _, z4, d4, S4⟩ := (D.next f4 u4).obj hf
      refine wpAny_mono ((hsu a oe4 cls d (X.pn ++ pins) z4 ⟨_, d4⟩).run [] _ σ H E S4 (yes rfl a D.na)) (fun f s6 q => ?_) fun _ _ z => z.elim
      cases f with
      | ret u =>
        obtain ⟨v6, σ6, H6, S6, r6, q6⟩ := q
        exact ⟨v6, σ6, H6, S6.unsuite ok, r6, q6⟩
      | _ =>
        obtain ⟨σ6, H6, S6, q6⟩ := q
        exact ⟨σ6, H6, S6.unsuite ok, q6⟩
  | @named x n i c ts b₀ suite np pos hds l hi hln hc hsu r ih =>
    obtain ⟨b, e1, yes, no⟩ := w
    obtain ⟨oe, vs, he, hz, _, S⟩ := D.obj hf
    refine wpAny_handleBy_cons (codeAny_handlers_test ?_) (by intro q; cases q)
    have ty : PySem.W.Looks (model X.prog X.w) s.heap (typeOf (.ref a)) cls := fun _ _ _ _ k q => wpAny_typeOf_ref (k _ _ he) (by rw [hz.1]; exact q)
    have fits := PySem.W.exm_one (M := model X.prog X.w) D.inv.kIn ty e1
    have name : ∀ {Q E : Value → Shared → Prop}, Q c s → wpAny (model X.prog X.w) (X.A.mark (some (.ref a))) (eval (.Name x np) X.env) Q E s := fun {Q E} q => by
      obtain ⟨g1, g2, g3 | ⟨g3, g4, g5⟩⟩ := hc
      · exact ld_glob (X := X.suite a ((a, oe) :: (X.pn ++ pins))) S g1 g3 q g2
      · exact ld_blt (X := X.suite a ((a, oe) :: (X.pn ++ pins))) S g1 g3 g4 q g5 g2
    refine name (fits.here ?_)
    cases b with
    | false => exact ih (no rfl)
    | true =>
      refine codeAny_handlers_suite_as (HandSPX.lands_againZ D.fl fun h4 f4 u4 => ?_)
      obtain ⟨oe4, vs4, _, z4, d4, S4⟩ := (D.next f4 u4).obj hf
      refine store_ok (X := X.suite a ((a, oe4) :: (X.pn ++ pins))) (v := .ref a) S4 hN hi (.inl hln) rfl (fun s5 S5 => ?_) (.inr hln)
      refine wpAny_mono ((hsu a oe4 cls d (X.pn ++ pins) z4 ⟨_, d4⟩).run [] s5 _ H (goneD i E) S5 (yes rfl a D.na)) (fun f s6 q => ?_) fun _ _ z => z.elim
      cases f with
      | ret u =>
        obtain ⟨v6, σ6, H6, S6, r6, q6⟩ := q
        exact gone_ok (S6.unsuite ok) hN hi hln fun s7 J7 => ⟨_, _, _, J7, r6, q6⟩
      | _ =>
        obtain ⟨σ6, H6, S6, q6⟩ := q
        exact gone_ok (S6.unsuite ok) hN hi hln fun s7 J7 => ⟨_, _, J7, q6⟩
/-- try: body, then clauses with names or without -/
theorem ps_tryH {body : List Stmt} {h₀ : ExceptHandler} {hds : List ExceptHandler} {l : List (Value × Option Nat × (Addr → Value → Option Addr → TS))} {W : WX} {tb : WX → TS} {pos : Pos} (hs : X.stack = X.env :: X.outer) (hf : X.env.frame = some X.env.locals) (hN : X.N.Nodup) (tk : Takes X W)
    (hb : ∀ (V : WX) (pn : List (Addr × Obj)) (xe : Value → Shared → Prop), Takes (X.tr pn xe) V → PassesOwn (model X.prog X.w) X.A X.env xe → PSs (X.tr pn xe) body (tb V))
    (hh : HOks X (h₀ :: hds) l) : PS X (.Try body (h₀ :: hds) [] [] pos) (fun D σ H => tb (wH X.K W D l) D σ H) := by
  refine ⟨fun pins s σ H D I h => ?_⟩
  have ok := I.ok
  refine wpAny_Try_except (wpAny_mono ((hb (wH X.K W D l) (X.pn ++ pins) _ (fun u s' xx => ?_) PassesOwn.looking).run [] s σ H D (I.toTry _) h) (fun f s1 q => ?_) fun e s1 he => he)
  · obtain ⟨a, B, sI, pins', σ', H', cls, d, rfl, J', nb, up, sky, na, os, ag, w⟩ := xx
    have sky' : Sky B (X.env :: X.outer) a (Zc cls d) X.env.locals s'.heap := by rw [← hs]; exact sky
    exact Sky.land Zc.steady (by rw [ok.frames, hs]) hf sky' fun h3 f3 u3 => Down.hands (s := { s' with heap := h3 }) ⟨J'.ofTry ok, nb, up.trans u3, os, ag, na, f3⟩ hs hf hN tk ok hh w
  · cases f with
    | next =>
      obtain ⟨σ', H', J', q⟩ := q
      exact wpAny_execs_nil ⟨σ', H', J'.ofTry ok, q⟩
    | ret u =>
      obtain ⟨v, σ', H', J', r, q⟩ := q
      exact ⟨v, σ', H', J'.ofTry ok, r, q⟩
    | _ =>
      obtain ⟨σ', H', J', q⟩ := q
      exact ⟨σ', H', J'.ofTry ok, q⟩
end HandsS
section LamS
open PySem.Spec PyProof.Rows
/-! ### lambdas without parameters, handed to a def that calls them -/
abbrev Tbs := List (Addr × Str)
/-- the name that the lambdas of a def bear -/
def qLam (x : Str) : Str := x ++ ".<locals>." ++ "<lambda>"
/-- no table of code objects stands still -/
def NoT (F : Hp) : Prop := ∀ b ps, F b ≠ some (.tbl ps)
def cutT (H : Hp) : Hp := fun b => match H b with
  | some (.tbl _) => none
  | o => o
theorem cutT_at {H : Hp} {b : Addr} {o : HO} (h : H b = some o) (n : ∀ ps, o ≠ .tbl ps) : cutT H b = some o := by
  unfold cutT
  rw [h]
  cases o <;> first | rfl | exact absurd rfl (n _)
theorem cutT_same (H : Hp) : Same (cutT H) H := fun b o h => by
  unfold cutT at h
  split at h
  · cases h
  · exact h
theorem cutT_no (H : Hp) : NoT (cutT H) := fun b ps h => by
  have e := cutT_same H b _ h
  unfold cutT at h
  rw [e] at h
  cases h
theorem NoT.ext {F H H' : Hp} (n : NoT F) (s : Same F H) (e : LamX.ExtN H H') : Same F H' := fun b o h => e b o (s b o h) fun ps z => n b ps (by rw [h, z])
theorem Src.cut {F H : Hp} {p : Addr} (h : Src F H p) : Src (cutT F) H p := h.weak (cutT_same F)
theorem Src.ext {F H H' : Hp} {p : Addr} (h : Src F H p) (n : NoT F) (e : LamX.ExtN H H') : Src F H' p := by
  obtain ⟨a, b, x, y, h1, z⟩ := h
  exact ⟨n.ext a e, b, x, y, e _ _ h1 (fun ps z => by cases z), z⟩
theorem SqL.cut {K : PySem.W.Frag} {H : Hp} {a : Addr} {xs : List V} (h : SqL K H a xs) : SqL K (cutT H) a xs := by
  rcases h with (h | ⟨o, h⟩) | h
  · exact .inl (.inl (cutT_at h fun ps z => by cases z))
  · exact .inl (.inr ⟨o, cutT_at h fun ps z => by cases z⟩)
  · exact .inr h
theorem tabs_stp {T : Tbs} {F H F' H' : Hp} {p : Addr} (t : LamX.Tabs T H) (st : Stp (S1 p) F H F' H') (hp : ∃ xs, H p = some (.lst xs)) : LamX.Tabs T H' := fun q hq => by
  obtain ⟨xs, hp⟩ := hp
  obtain ⟨ps, h1, h2, h3⟩ := t q hq
  refine ⟨ps, st.keep _ _ (fun z => ?_) h1, h2, fun pos cv hc => ?_⟩
  · rw [show q.1 = p from z, hp] at h1; cases h1
  · obtain ⟨c, e1, e2⟩ := h3 pos cv hc
    refine ⟨c, e1, st.keep _ _ (fun z => ?_) e2⟩
    rw [show c = p from z, hp] at e2
    unfold LamX.CodeO at e2
    cases e2
theorem Src.tabs {T : Tbs} {F H F' H' : Hp} {p : Addr} (h : Src F H p) (t : LamX.Tabs T H) (st : Stp (S1 p) F H F' H') : LamX.Tabs T H' := by
  obtain ⟨_, _, x, y, e, _⟩ := h
  exact tabs_stp t st ⟨_, e⟩
theorem tabs_nil {T : Tbs} {H : Hp} (h : ∀ t ∈ T, H t.1 = some (.tbl #[])) : LamX.Tabs T H := fun t ht => .nil (h t ht)
/-- the length of the slots is known -/
theorem takes_len {X : Cx} {W : WX} (tk : Takes X W) : Takes X (fun cls d σ H => σ.length = X.N.length → W cls d σ H) := fun u s' ⟨a, B, sI, pins, σ, H, cls, d, e, I, nb, up, sky, na, os, ag, w⟩ =>
  tk u s' ⟨a, B, sI, pins, σ, H, cls, d, e, I, nb, up, sky, na, os, ag, w I.len⟩
theorem pss_ex {X : Cx} {b : List Stmt} {ι : Type} {C : ι → Prop} {t : ι → TS} (h : ∀ i, C i → PSs X b (t i)) : PSs X b (fun D σ H => ∃ i, C i ∧ t i D σ H) := ⟨fun pins s σ H D I ⟨i, c, q⟩ => (h i c).run pins s σ H D I q⟩
theorem pe_weak {X : Cx} {e : Expr} {t : TE} (h : PE X e t) : PE X e (fun σ H Q => ∃ R : VK, t σ H R ∧ ∀ v H1, R v H1 → Q v H1) :=
  ⟨fun pins s σ H Q I ⟨R, q, m⟩ => wpAny_mono (h.run pins s σ H R I q) (fun u s' ⟨v, H1, I1, r, q1⟩ => ⟨v, H1, I1, r, m v H1 q1⟩) fun _ _ z => z⟩
theorem NoT.new {F : Hp} {p : Addr} {o : HO} (n : NoT F) (h : ∀ ps, o ≠ .tbl ps) : NoT (upd F p o) := fun b ps z => by
  by_cases e : b = p
  · subst e; rw [upd_same] at z; exact h ps (Option.some.inj z)
  · rw [upd_ne e] at z; exact n b ps z
/-- a def whose code object is known -/
theorem okXc {P : Program} {w : World} {K : PySem.W.Frag} {mg : Str → Option Value} {base : Heap} {x qual : Str} {st : Stmt} {f : Addr} {fd : FuncData} {N ps : List Str} {k : Nat} {sp : Sp} (F : Fun K x qual st f fd) (S : FnScope N ps (defScope st)) (len : ∀ vs H Q E, sp vs H Q E → vs.length = ps.length)
    (hb : ∀ (A : Around) (outer : List Env) (s : Shared) (H : Hp) (vs : List V) (Q : VK) (E : XK), Room k (A.deeper (envOfC qual (defScope st) s.heap.objs.size f fd.code)) → sp vs H Q E →
      ∃ t, PSs (cxOf (L2.CX P w) P w K mg base N qual (defScope st) f fd.code A outer s H E) (defBody st) t ∧ t { nx := fun _ H' => Q .non H', rt := Q } (L2.start N vs) H) : FnOk P w K mg base (L2.CX P w) (k + 1) f fd ps sp := by
  obtain ⟨oc, od, kV, doc, pm, an, cdv, ct, osl, e, lk, hcd⟩ := F.ex
  subst e
  exact fn_of lk hcd S len hb
/-- a def that gets a lambda -/
structure LamG (K : PySem.W.Frag) (mg : Str → Option Value) (nm a : Str) (st : Stmt) (g : Addr) (fd : FuncData) (N : List Str) : Prop where
  F : Fun K nm nm st g fd
  m : mg nm = some (.ref g)
  b : L2.Binds K fd [a] []
  S : FnScope N [a] (defScope st)
def OkG (K : PySem.W.Frag) (mg : Str → Option Value) (nm a : Str) (st : Stmt) (N : List Str) : Prop := ∃ g fd, LamG K mg nm a st g fd N
theorem pe_lam {X : Cx} {T : Tbs} {TT : (XK → Hp → VK → Prop) → Hp → VK → Prop} {nm a : Str} {st : Stmt} {g : Addr} {fd : FuncData} {N : List Str} {c P : Addr} {k : Nat} {params : Arguments} {body : Expr} {scope : Scope} {t : XK → TE} {p lpos pos : Pos}
    (L : LamG X.K X.mg nm a st g fd N) (hg : Gl X nm) (hN : N[0]? = some a) (hv : Vis (defScope st) a) (hG : LamX.GivesTo X N nm (defScope st) g fd.code (defBody st) a (X.env.qual ++ "<lambda>") TT)
    (TB : LamX.TabB X.base X.mg c P) (hc : X.env.code = .ref c) (hm : (P, X.env.qual ++ "<lambda>") ∈ T) (hu : ∀ p ∈ T, p.1 = P → p.2 = X.env.qual ++ "<lambda>") (hr : Room (k + 2) X.A) (hs : LamX.LamS X.env.scope scope) (hdef : defaultsOf params X.env = ([], []))
    (hbind : ∀ (q : Str) (cl : List (Str × Addr)) (pm cv ctv : Value), bindArgs (PySem.W.kla_fn "<lambda>" q params body scope cl pm cv ctv) ⟨[], []⟩ = pure [])
    (hbody : ∀ (A : Around) (outer : List Env) (s : Shared) (H : Hp) (E : XK) (f c' : Addr), Room k (A.deeper (LamX.lamEnv X scope s.heap.objs.size f c')) → PE (LamX.lamCx X A outer s H E scope f c') body (t E))
    (d1 : (nm == ("__debug__" : Str)) = false := by decide) (d2 : (a == ("__debug__" : Str)) = false := by decide) (d3 : (a == ("__classdict__" : Str)) = false := by decide) :
    PE X (.Call (.Name nm p) [.Lambda params body scope lpos] [] pos) (LamX.tLam T TT t) := by
  obtain ⟨oc, od, kV, doc, pm, an, cdv, ct, osl, e, lk, hcd⟩ := L.F.ex
  have b := L.b
  subst e
  exact LamX.pe_lamcall hg L.m L.F.kp lk hcd b L.S hN hv hG TB hc hm hu hr hs hdef hbind hbody d1 d2 d3
theorem s_lam {T : Tbs} {TT : (XK → Hp → VK → Prop) → Hp → VK → Prop} {t : XK → TE} {σ : L2.St} {H : Hp} {Q : VK} (hT : LamX.Tabs T H) (h : ∀ H1, LamX.ExtN H H1 → LamX.Tabs T H1 → TT (fun E H' Q' => t E σ H' Q') H1 Q) : LamX.tLam T TT t σ H Q := ⟨hT, h⟩
end LamS
section ClsS
open PyProof.Rows
/-! ### own classes -/
structure ClF (K : PySem.W.Frag) (mg : Str → Option Value) (nm : Str) : Prop where
  g : mg nm = some (.ref (exA mg nm))
  cl : Cls K (exA mg nm)
theorem ClF.mk' {K : PySem.W.Frag} {mg : Str → Option Value} {nm : Str} {C : Addr} (g : mg nm = some (.ref C)) (c : Cls K C) : ClF K mg nm := by
  have e := exA_of g
  exact ⟨by rw [e]; exact g, by rw [e]; exact c⟩
/-- a method that stands, with its promise -/
structure FnC (P : Program) (w : World) (K : PySem.W.Frag) (mg : Str → Option Value) (base : Heap) (CX : CXT) (k : Nat) (nm qual : Str) (st : Stmt) (f : Addr) (fd : FuncData) (ps : List Str) (sp : Sp) : Prop where
  G : FnOk P w K mg base CX k f fd ps sp
  b : Binds K fd ps []
  F : Fun K nm qual st f fd
theorem s_make {C : Addr} {sp : Sp} {dvs : List V} {E : XK} {t : TA} {σ : L2.St} {H : Hp} {Q : VK} (h : t σ H fun vs H1 => ∀ x dx, H1 x = none → H1 dx = none → dx ≠ x → sp (.ref x :: (vs ++ dvs)) (upd (upd H1 dx (.own x)) x (.ins C dx [])) (fun v H2 => v = .non ∧ Q (.ref x) H2) E) : tMake C sp dvs E t σ H Q := h
theorem s_meth {C : Addr} {m : Str} {sp : Sp} {dvs : List V} {E : XK} {ta : TE} {t : TA} {σ : L2.St} {H : Hp} {Q : VK} (h : ta σ H fun x H1 => ∃ a dx fs, x = .ref a ∧ H1 a = some (.ins C dx fs) ∧ fs.lookup m = none ∧ t σ H1 fun vs H2 => sp (x :: (vs ++ dvs)) H2 Q E) : tMeth C m sp dvs E ta t σ H Q := h
theorem s_prop {C : Addr} {sp : Sp} {dvs : List V} {E : XK} {ta : TE} {σ : L2.St} {H : Hp} {Q : VK} (h : ta σ H fun x H1 => ∃ a dx fs, x = .ref a ∧ H1 a = some (.ins C dx fs) ∧ sp (.ref a :: dvs) H1 Q E) : tProp C sp dvs E ta σ H Q := h
theorem s_fld {K : PySem.W.Frag} {f : Str} {ta : TE} {σ : L2.St} {H : Hp} {Q : VK} (h : ta σ H fun x H1 => ∃ a C dx fs v, x = .ref a ∧ H1 a = some (.ins C dx fs) ∧ Cls K C ∧ NoAttr K C f ∧ fs.lookup f = some v ∧ Q v H1) : tFld K ta f σ H Q := h
theorem s_sfld {K : PySem.W.Frag} {f : Str} {ta tv : TE} {D : Ends} {σ : L2.St} {H : Hp} (h : tv σ H fun y H1 => ta σ H1 fun x H2 => ∃ a C dx fs, x = .ref a ∧ H2 a = some (.ins C dx fs) ∧ Cls K C ∧ NoAttr K C f ∧ fs.length < 1000 ∧ D.nx σ (upd H2 a (.ins C dx (putF f y fs)))) : sFld K ta tv f D σ H := h
/-- o.m(k = v, ..) -/
def tMethK0 (C : Addr) (m : Str) (sp : Sp) (gV : List V → List V → List V) (E : XK) (ta : TE) (tk : TA) : TE := fun σ H Q => ta σ H fun x H1 => ∃ a dx fs, x = .ref a ∧ H1 a = some (.ins C dx fs) ∧ fs.lookup m = none ∧ tk σ H1 fun zs H2 => sp (gV [x] zs) H2 Q E
theorem pe_methK0 {X : Cx} {CX : CXT} {k : Nat} {f C : Addr} {fd : FuncData} {ps ks : List Str} {sp : Sp} {E : XK} {m : Str} {pos apos : Pos} {o : Expr} {ta : TE} {kws : List Keyword} {tk : TA} {g : List Value → List Value → List Value} {gV : List V → List V → List V} {pl : Sem Bool}
    (he : PE X o ta) (c : Cls X.K C) (hm : Meth X.K C m f) (F : FnOk X.prog X.w X.K X.mg X.base CX k f fd ps sp) (hr : Room k X.A) (hb : KBinds X.K fd ps ks g gV) (hx : Passes CX X E) (hkw : PK X kws tk)
    (hall : (backToKw pos (keywordEach kws X.env)).all (·.1.isSome) = true := by rfl) (hks : (backToKw pos (keywordEach kws X.env)).filterMap (·.1) = ks := by rfl)
    (hpl : ((backTo pos (starEach [] X.env)).any (·.1) || (backToKw pos (keywordEach kws X.env)).any (·.1.isNone)) = false := by rfl)
    (ht : eval (.Call (.Attribute o m apos) [] kws pos) X.env = (do
      let ov ← eval o X.env
      standAt apos.atName
      let (f, first) ← holding [ov] (getMethod ov m pl)
      callWith pos f first (backTo pos (starEach [] X.env)) (backToKw pos (keywordEach kws X.env))) := by rfl) :
    PE X (.Call (.Attribute o m apos) [] kws pos) (tMethK0 C m sp gV E ta tk) := by
  refine ⟨fun pins s σ H Q I h => ?_⟩
  refine PySem.W.methodCall_KW (pl := pl) (thn (he.run pins s σ H _ I h) fun u s1 ⟨x, H1, I1, rx, a, dx, fs, ex, ea, l, q⟩ => ?_) ht
  subst ex
  obtain rfl : u = Value.ref a := rx
  refine getmeth_ok I1 ea c hm l ?_
  refine PySem.W.callWith_KW0 (first := [.ref a]) (h₀ := X.base) I1.ok.mod.kin hm.kp hall ?_ hpl
  refine thn (hkw.run pos pins s1 σ H1 _ I1 q) fun ws s2 ⟨zs, H2, I2, rz, q2⟩ => ⟨I2.kIn, ?_⟩
  rw [hks]
  exact run_fnk (us := [.ref a]) (vs := [.ref a]) F hr hb hx I2 (.cons rfl .nil) rz q2
theorem s_methK0 {C : Addr} {m : Str} {sp : Sp} {gV : List V → List V → List V} {E : XK} {ta : TE} {tk : TA} {σ : L2.St} {H : Hp} {Q : VK} (h : ta σ H fun x H1 => ∃ a dx fs, x = .ref a ∧ H1 a = some (.ins C dx fs) ∧ fs.lookup m = none ∧ tk σ H1 fun zs H2 => sp (gV [x] zs) H2 Q E) : tMethK0 C m sp gV E ta tk σ H Q := h
end ClsS
theorem SqT.ofK {K : PySem.W.Frag} {H : Hp} {a : Addr} {xs : List V} {o : Obj} {its : Array Value} {n : Nat} (hk : K.lookup a = some o) (hc : o.cls = .type "tuple") (hd : o.data = .seq its n) (hz : its.size ≤ sizeLine) (r : Vals xs its.toList) : SqT K H a xs := .inr ⟨o, its, n, hk, hc, hd, hz, r⟩
theorem CTup.mk' {K : PySem.W.Frag} {mg : Str → Option Value} {nm : Str} {R : Addr} {xs : List V} (g : mg nm = some (.ref R)) (h : ∀ H, SqT K H R xs) : mg nm = some (.ref (exA mg nm)) ∧ ∀ H, SqT K H (exA mg nm) xs := by
  have e := exA_of g
  exact ⟨by rw [e]; exact g, fun H => by rw [e]; exact h H⟩
theorem sl_tupK {X : Cx} (K : PySem.W.Frag) (e : X.K = K) : SlR X (rSlT K) := by subst e; exact sl_tup
theorem _root_.L2.Fun.kbinds1 {K : PySem.W.Frag} {x qual : Str} {st : Stmt} {f : Addr} {fd : FuncData} {ps : List Str} (F : Fun K x qual st f fd) (ks : List Str) (hn : 0 < ps.length)
    (h : ∀ (kV doc pm : Value) (an : Option Addr) (cdv ct : Value) (us ws : List Value), us.length = 1 → ws.length = ks.length → bindArgs (PySem.W.fnOf x qual (defArgs st) (defBody st) (defScope st) .none kV doc pm an cdv ct) ⟨us, ks.zip ws⟩ = pure (ps.zip (us ++ ws))) :
    KBn K fd ps 1 ks (fun us ws => us ++ ws) (fun us ws => us ++ ws) := by
  obtain ⟨oc, od, kV, doc, pm, an, cdv, ct, osl, rfl, lk, hcd⟩ := F.ex
  exact ⟨fun s us ws _ h1 h2 => .of_eq (h kV doc pm an cdv ct us ws h1 h2), fun r rz => r.append rz⟩
section SumT
open PyProof.Rows PySem
/-! ### sum of a tuple of ints -/
section
variable {prog : Program} {w : World} {A : Around} {E : Value → Shared → Prop} {s : Shared} {l : Addr} {xs : Array (Int × Tok)}
theorem sum_intTup {Q : Value → Shared → Prop} (hh : A.handled = none) (hl : s.heap.IsTuple l (intItems xs))
    (h : ∀ h' tk t', (∀ b o, s.heap.get? b = some o → h'.get? b = some o) → Q (.int (preSum (numAt xs) xs.size) t') { s with heap := h', toks := tk }) :
    wpAny (model prog w) A (call (.builtin "sum") [.ref l]) Q E s := by
  have hlt : l < s.heap.objs.size := by obtain ⟨_, e, _⟩ := hl; exact Heap.lt_size e
  refine call_sum_walkG (wpAny_pyIter_tuple hl ?_)
  refine ⟨s.heap.objs.size, _, _, _, _, _, numAt xs, rfl, Walks.tuple (A := A.in1) hh _ l (Nat.ne_of_lt hlt) (intItems xs), ⟨⟨_, Heap.get?_push_size _ rfl, rfl, rfl⟩, hl.at fun o e => Heap.get?_push_of_some _ e⟩, fun b hb => ?_, (fun _ _ => intItems_at), fun h' tk t' hk => ?_⟩
  · show b < (s.heap.push _).objs.size
    rw [Heap.size_push]
    rcases List.mem_cons.mp hb with rfl | hb
    · exact Nat.lt_succ_self _
    · rcases List.mem_cons.mp hb with rfl | hb
      · exact Nat.lt_succ_of_lt hlt
      · cases hb
  · have := h h' tk t' (fun b o e => hk b o (by
      simp only [List.mem_singleton]
      intro z
      rw [z] at e
      exact absurd (Heap.lt_size e) (Nat.lt_irrefl _)) (Heap.get?_push_of_some _ e))
    simpa [intItems] using this
end
def rSumT (K : PySem.W.Frag) : List V → Hp → VK → Prop := fun vs H Q => ∃ (a : Addr) (ns : List Int), vs = [V.ref a] ∧ SqT K H a (ns.map V.int) ∧ Q (.int ns.sum) H
theorem cr_sumT {X : Cx} (hc : X.calm = true) : CallR X (.builtin "sum") (rSumT X.K) := by
  intro pins s σ H vs us Q I r h
  obtain ⟨a, ns, rfl, hs, q⟩ := h
  obtain ⟨its, rv, hl, _⟩ := I.tuple hs
  rw [Vals.ref1 r]
  have hi := rv.ints
  obtain ⟨xs, e⟩ := hi.allInts.items
  have hn : numsOf (intItems xs).toList = ns := by rw [← e]; exact hi.numsOf
  rw [nums_intItems] at hn
  obtain ⟨o, ho, hc2, n, hd⟩ := hl
  rw [e] at hd
  refine sum_intTup (I.ok.hd hc) ⟨o, ho, hc2, n, hd⟩ fun h' tk t' hk => ⟨.int _, H, I.kept hk, ⟨_, rfl⟩, ?_⟩
  rw [preSum_eq, List.take_of_length_le (by simp), hn]; exact q
/-- a list or a tuple of ints -/
def SqN (K : PySem.W.Frag) (H : Hp) (a : Addr) (ns : List Int) : Prop := SqL K H a (ns.map V.int) ∨ SqT K H a (ns.map V.int)
def rSumN (K : PySem.W.Frag) : List V → Hp → VK → Prop := fun vs H Q => ∃ (a : Addr) (ns : List Int), vs = [V.ref a] ∧ SqN K H a ns ∧ Q (.int ns.sum) H
theorem c_sumN {X : Cx} (K : PySem.W.Frag) (eK : X.K = K) (hc : X.calm = true) : CallR X (.builtin "sum") (rSumN K) := by
  subst eK
  intro pins s σ H vs us Q I r h
  obtain ⟨a, ns, e, hs, q⟩ := h
  rcases hs with hs | hs
  · exact cr_sum hc pins s σ H vs us Q I r ⟨a, ns, e, hs, q⟩
  · exact cr_sumT hc pins s σ H vs us Q I r ⟨a, ns, e, hs, q⟩
end SumT
/-! ### steps that keep a Src -/
theorem Stp.ofSame {S : Addr → Prop} {F H H' : Hp} (h : Same F H) (s : Same H H') : Stp S F H F H' := ⟨Same.refl F, h.trans s, fun _ _ _ => rfl, fun b o _ e => s b o e, fun b o e => ⟨o, s b o e⟩⟩
theorem Src.st0 {F H F' H' : Hp} {p : Addr} (h : Src F H p) (st : Stp S0 F H F' H') : Src F' H' p := let ⟨_, b, x, y, e, z⟩ := h; ⟨st.fh, (st.fo _ _ e).trans b, x, y, st.same _ _ e, z⟩
theorem Stp.none {S : Addr → Prop} {F H F1 H1 : Hp} {f : Addr} (t : Stp S F H F1 H1) (h : H1 f = none) : H f = none := by
  cases e : H f with
  | none => rfl
  | some o =>
    obtain ⟨o', e'⟩ := t.dom f o e
    rw [h] at e'; cases e'
/-- a new thing beside the source, not frozen -/
theorem scr {F0 F H H0 H2 : Hp} {p q : Addr} {o : HO} (s : Src F H p) (t : Stp (S1 p) F0 H0 F H) (hq : H q = none) (e : upd H q o = H2) :
    Src F H2 p ∧ Stp (S1 p) F0 H0 F H2 ∧ Same H H2 ∧ H2 q = some o ∧ q ≠ p ∧ F q = none ∧ H0 q = none := by
  subst e
  have n := (s.ne hq).symm
  exact ⟨s.upd n (s.1.free hq), t.trans (Stp.cell s.1 hq), (Stp.new (S := S0) (Same.refl _) hq).same, upd_same, n, s.1.free hq, t.none hq⟩
/-- a new thing, frozen -/
theorem frz {F0 F H H0 H2 : Hp} {p q : Addr} {o : HO} (s : Src F H p) (t : Stp (S1 p) F0 H0 F H) (hq : H q = none) (e : upd H q o = H2) :
    ∃ F2, Src F2 H2 p ∧ Stp (S1 p) F0 H0 F2 H2 ∧ Same F F2 ∧ Same H H2 ∧ F2 q = some o ∧ (∀ b o', H b = some o' → F2 b = F b) := by
  subst e
  have n := Stp.new (S := S1 p) (o := o) s.1 hq
  exact ⟨upd F q o, s.new hq, t.trans n, n.ff, (Stp.new (S := S0) (Same.refl _) hq).same, upd_same, n.fo⟩
/-- a callee's new thing, frozen -/
theorem gotZ {F0 F H H0 H2 : Hp} {p q : Addr} {o : HO} (s : Src F H p) (t : Stp (S1 p) F0 H0 F H) (e : Same H H2) (hq : H q = none) (h : H2 q = some o) :
    ∃ F2, Src F2 H2 p ∧ Stp (S1 p) F0 H0 F2 H2 ∧ Same F F2 ∧ F2 q = some o ∧ (∀ b o', H b = some o' → F2 b = F b) := by
  have g := Stp.got (S := S1 p) s.1 e hq h
  refine ⟨upd F q o, ?_, t.trans g, g.ff, upd_same, g.fo⟩
  have s2 := s.of e
  obtain ⟨_, b, x, y, z, w⟩ := s2
  exact ⟨g.fh, by rw [upd_ne (s.ne hq)]; exact b, x, y, z, w⟩
/-- a callee's steps -/
theorem stpZ {F0 F H H0 F2 H2 : Hp} {p : Addr} (s : Src F H p) (t : Stp (S1 p) F0 H0 F H) (g : Stp S0 F H F2 H2) : Src F2 H2 p ∧ Stp (S1 p) F0 H0 F2 H2 := ⟨s.st0 g, t.trans g.up⟩
theorem sameZ {F0 F H H0 H2 : Hp} {p : Addr} (s : Src F H p) (t : Stp (S1 p) F0 H0 F H) (e : Same H H2) : Src F H2 p ∧ Stp (S1 p) F0 H0 F H2 := ⟨s.of e, t.trans (.ofSame s.1 e)⟩
/-- a cell made here is written -/
theorem wrZ {F0 F H H0 : Hp} {p q : Addr} {o : HO} (s : Src F H p) (t : Stp (S1 p) F0 H0 F H) (n : q ≠ p) (fq : F q = none) (h0 : H0 q = none) : Src F (upd H q o) p ∧ Stp (S1 p) F0 H0 F (upd H q o) := ⟨s.upd n fq, t.wrNew h0 fq⟩
/-- a cell made here stands still from now on -/
theorem keepZ {F0 F H H0 : Hp} {p q : Addr} {o : HO} (s : Src F H p) (t : Stp (S1 p) F0 H0 F H) (n : q ≠ p) (fq : F q = none) (h0 : H0 q = none) (h : H q = some o) : ∃ F2, Src F2 H p ∧ Stp (S1 p) F0 H0 F2 H ∧ Same F F2 ∧ F2 q = some o ∧ (∀ b, b ≠ q → F2 b = F b) := by
  have g := t.freeze h0 h fq
  refine ⟨upd F q o, s.frz n.symm g.fh, g, fun b u e => ?_, upd_same, fun b nb => upd_ne nb⟩
  rw [upd_ne (ne_of_none e fq)]; exact e
theorem inV_notin {K : PySem.W.Frag} {H : Hp} {Q : VK} {a : Addr} {ns : List Int} {x : Int} (h : SqL K H a (ns.map V.int)) (q : Q (.bl (!decide (x ∈ ns))) H) : rIn K true (.int x) (.ref a) H Q :=
  ⟨a, _, rfl, .inl h, rfl, flat_ints ns, by rw [if_pos rfl, inV_ints]; exact q⟩
/-- lists that stand -/
inductive LV (H : Hp) : List V → List (List V) → Prop
  | nil : LV H [] []
  | cons {a : Addr} {l : List V} {vs : List V} {ls : List (List V)} : H a = some (.lst l) → LV H vs ls → LV H (.ref a :: vs) (l :: ls)
abbrev RL (H : Hp) (vs : List V) (ls : List (List Int)) : Prop := LV H vs (ls.map (·.map V.int))
theorem LV.mono {H H' : Hp} (s : Same H H') : ∀ {vs : List V} {ls : List (List V)}, LV H vs ls → LV H' vs ls
  | _, _, .nil => .nil
  | _, _, .cons h r => .cons (s _ _ h) (r.mono s)
theorem LV.len {H : Hp} : ∀ {vs : List V} {ls : List (List V)}, LV H vs ls → vs.length = ls.length
  | _, _, .nil => rfl
  | _, _, .cons _ r => by simp [r.len]
theorem LV.app {H : Hp} {ws : List V} {ms : List (List V)} : ∀ {vs : List V} {ls : List (List V)}, LV H vs ls → LV H ws ms → LV H (vs ++ ws) (ls ++ ms)
  | _, _, .nil, h2 => h2
  | _, _, .cons h r, h2 => .cons h (r.app h2)
theorem LV.snoc {H : Hp} {vs : List V} {ls : List (List V)} {a : Addr} {l : List V} (r : LV H vs ls) (h : H a = some (.lst l)) : LV H (vs ++ [.ref a]) (ls ++ [l]) := r.app (.cons h .nil)
theorem LV.take {H : Hp} : ∀ (n : Nat) {vs : List V} {ls : List (List V)}, LV H vs ls → LV H (vs.take n) (ls.take n)
  | 0, _, _, _ => by simp only [List.take_zero]; exact .nil
  | n + 1, _, _, .nil => .nil
  | n + 1, _, _, .cons h r => .cons h (r.take n)
theorem LV.drop {H : Hp} : ∀ (n : Nat) {vs : List V} {ls : List (List V)}, LV H vs ls → LV H (vs.drop n) (ls.drop n)
  | 0, _, _, r => r
  | n + 1, _, _, .nil => .nil
  | n + 1, _, _, .cons _ r => r.drop n
theorem LV.get {H : Hp} : ∀ {vs : List V} {ls : List (List V)} (i : Nat) {v : V}, LV H vs ls → vs[i]? = some v → ∃ a l, v = .ref a ∧ ls[i]? = some l ∧ H a = some (.lst l)
  | _, _, i, _, .nil, e => by simp at e
  | _, _, 0, _, .cons h _, e => ⟨_, _, (Option.some.inj e).symm, rfl, h⟩
  | _, _, i + 1, _, .cons _ r, e => r.get i e
theorem RL.get {H : Hp} {vs : List V} {ls : List (List Int)} (r : RL H vs ls) (i : Nat) {v : V} (e : vs[i]? = some v) : ∃ a l, v = .ref a ∧ ls[i]? = some l ∧ H a = some (.lst (l.map V.int)) := by
  obtain ⟨a, l, rfl, e2, h⟩ := LV.get i r e
  rw [List.getElem?_map] at e2
  cases z : ls[i]? with
  | none => rw [z] at e2; cases e2
  | some m => rw [z] at e2; cases e2; exact ⟨a, m, rfl, rfl, h⟩
theorem RL.len {H : Hp} {vs : List V} {ls : List (List Int)} (r : RL H vs ls) : vs.length = ls.length := by rw [LV.len r, List.length_map]
theorem RL.take {H : Hp} {vs : List V} {ls : List (List Int)} (n : Nat) (r : RL H vs ls) : RL H (vs.take n) (ls.take n) := by
  have := LV.take n r
  rwa [← List.map_take] at this
theorem RL.drop {H : Hp} {vs : List V} {ls : List (List Int)} (n : Nat) (r : RL H vs ls) : RL H (vs.drop n) (ls.drop n) := by
  have := LV.drop n r
  rwa [← List.map_drop] at this
theorem RL.snoc {H : Hp} {vs : List V} {ls : List (List Int)} {a : Addr} {l : List Int} (r : RL H vs ls) (h : H a = some (.lst (l.map V.int))) : RL H (vs ++ [.ref a]) (ls ++ [l]) := by
  have := LV.snoc r h
  rwa [show (ls.map (·.map V.int)) ++ [l.map V.int] = (ls ++ [l]).map (·.map V.int) by simp] at this
theorem RL.app {H : Hp} {vs ws : List V} {ls ms : List (List Int)} (r : RL H vs ls) (r2 : RL H ws ms) : RL H (vs ++ ws) (ls ++ ms) := by
  have := LV.app r r2
  rwa [← List.map_append] at this
/-! ### steps with tables of code objects -/
def ZT (T : Tbs) (F H : Hp) (p : Addr) : Prop := Src F H p ∧ NoT F ∧ LamX.Tabs T H
theorem notbl_lst {xs : List V} : ∀ ps, HO.lst xs ≠ .tbl ps := fun _ z => by cases z
section
variable {T : Tbs} {F F' H H2 : Hp} {p q : Addr} {o : HO}
theorem ZT.of (z : ZT T F H p) (e : Same H H2) : ZT T F H2 p := ⟨z.1.of e, z.2.1, z.2.2.ext e⟩
theorem ZT.ext (z : ZT T F H p) (x : LamX.ExtN H H2) (t : LamX.Tabs T H2) : ZT T F H2 p := ⟨z.1.ext z.2.1 x, z.2.1, t⟩
theorem ZT.fh (z : ZT T F H p) : Same F H := z.1.1
theorem ZT.draw (z : ZT T F H p) (s : Src F H2 p) (st : Stp (S1 p) F H F H2) : ZT T F H2 p := ⟨s, z.2.1, z.1.tabs z.2.2 st⟩
theorem NoT.at' {F : Hp} {b : Addr} {o : HO} (n : NoT F) (h : F b = some o) : ∀ ps, o ≠ .tbl ps := fun ps z => n b ps (by rw [h, z])
theorem cut_rl {F : Hp} : ∀ {vs : List V} {ls : List (List V)}, LV F vs ls → LV (cutT F) vs ls
  | _, _, .nil => .nil
  | _, _, .cons h r => .cons (cutT_at h fun ps z => by cases z) (cut_rl r)
theorem cut_ff {F F' : Hp} (n : NoT F) (s : Same F F') : Same F (cutT F') := fun b o h => cutT_at (s b o h) (n.at' h)
/-- a callee's steps -/
theorem ZT.stp (z : ZT T F H p) (g : Stp S0 F H F' H2) : ZT T (cutT F') H2 p ∧ Same F (cutT F') := ⟨⟨(z.1.st0 g).cut, cutT_no _, z.2.2.ext g.same⟩, cut_ff z.2.1 g.ff⟩
/-- a new thing, frozen -/
theorem ZT.frz (z : ZT T F H p) (hq : H q = none) (e : upd H q o = H2) (no : ∀ ps, o ≠ .tbl ps) : ∃ F2, ZT T F2 H2 p ∧ Same F F2 ∧ Same H H2 ∧ F2 q = some o ∧ (∀ b o', H b = some o' → F2 b = F b) := by
  subst e
  have n := Stp.new (S := S1 p) (o := o) z.1.1 hq
  have s := (Stp.new (S := S0) (o := o) (Same.refl H) hq).same
  exact ⟨upd F q o, ⟨z.1.new hq, z.2.1.new no, z.2.2.ext s⟩, n.ff, s, upd_same, n.fo⟩
/-- a callee's new thing, frozen -/
theorem ZT.got (z : ZT T F H p) (e : Same H H2) (hq : H q = none) (h : H2 q = some o) (no : ∀ ps, o ≠ .tbl ps) : ∃ F2, ZT T F2 H2 p ∧ Same F F2 ∧ F2 q = some o ∧ (∀ b o', H b = some o' → F2 b = F b) := by
  have g := Stp.got (S := S1 p) z.1.1 e hq h
  refine ⟨upd F q o, ⟨?_, z.2.1.new no, z.2.2.ext e⟩, g.ff, upd_same, g.fo⟩
  obtain ⟨_, b, x, y, w, v⟩ := z.1.of e
  exact ⟨g.fh, by rw [upd_ne (z.1.ne hq)]; exact b, x, y, w, v⟩
end
/-- a thing that stands beside the source is frozen -/
theorem ZT.hold {T : Tbs} {F H : Hp} {p q : Addr} {xs : List V} (z : ZT T F H p) (h : H q = some (.lst xs)) (n : q ≠ p) (hF : F q = none ∨ F q = some (.lst xs)) : ∃ F2, ZT T F2 H p ∧ Same F F2 ∧ F2 q = some (.lst xs) := by
  obtain ⟨⟨a, b, x, y, w, v⟩, c, d⟩ := z
  have hs : Same F (upd F q (.lst xs)) := fun r o e => by
    by_cases hr : r = q
    · subst hr
      rw [upd_same]
      rcases hF with hF | hF
      · rw [hF] at e; cases e
      · rw [hF] at e; exact e
    · rw [upd_ne hr]; exact e
  refine ⟨upd F q (.lst xs), ⟨⟨fun r o e => ?_, by rw [upd_ne n.symm]; exact b, x, y, w, v⟩, c.new notbl_lst, d⟩, hs, upd_same⟩
  by_cases hr : r = q
  · subst hr; rw [upd_same] at e; cases e; exact h
  · rw [upd_ne hr] at e; exact a r o e
theorem sameX {H H2 : Hp} (e : Same H H2) : LamX.ExtN H H2 := .of e
theorem notbl_tup {xs : List V} : ∀ ps, HO.tup xs ≠ .tbl ps := fun _ z => by cases z
/-! ### nodes and tables -/
/-- the number of doublings -/
def IsK (w : Int) (k : Nat) : Prop := 65536 ≤ w * 2 ^ k ∧ ∀ i < k, w * 2 ^ i < 65536
theorem IsK.uniq {w : Int} {k j : Nat} (h : IsK w k) (g : IsK w j) : k = j := by
  rcases Nat.lt_trichotomy k j with c | c | c
  · have := g.2 k c; have := h.1; omega
  · exact c
  · have := h.2 j c; have := g.1; omega
/-- the border ahead of a letter -/
def bord (w : Int) (cs : List Int) (i : Nat) : Int := w * (cs.take i).sum / cs.sum
structure CsOk (cs : List Int) : Prop where
  pos : ∀ c ∈ cs, 1 ≤ c
  le : cs.sum ≤ 64
  n0 : 2 ≤ cs.length
theorem sum_pos : ∀ cs : List Int, (∀ c ∈ cs, 1 ≤ c) → (cs.length : Int) ≤ cs.sum
  | [], _ => by simp
  | c :: r, h => by
    have := sum_pos r fun x hx => h x (List.mem_cons_of_mem _ hx)
    have := h c (by simp)
    rw [List.sum_cons, List.length_cons]; omega
theorem sum_take_le {cs : List Int} (h : ∀ c ∈ cs, 1 ≤ c) (i : Nat) : 0 ≤ (cs.take i).sum ∧ (cs.take i).sum ≤ cs.sum := by
  have h1 := sum_pos (cs.take i) fun x hx => h x (List.mem_of_mem_take hx)
  have h2 := sum_pos (cs.drop i) fun x hx => h x (List.mem_of_mem_drop hx)
  have e : cs.sum = (cs.take i).sum + (cs.drop i).sum := by rw [← List.sum_append, List.take_append_drop]
  omega
theorem sum_take_succ {cs : List Int} {i : Nat} (h : i < cs.length) : (cs.take (i + 1)).sum = (cs.take i).sum + cs[i] := by
  rw [List.take_succ_eq_append_getElem h, List.sum_append]; simp
theorem CsOk.sum (h : CsOk cs) : 2 ≤ cs.sum := by
  have := sum_pos cs h.pos
  have := h.n0
  omega
/-- a letter's part is not narrow -/
theorem part_wide {cs : List Int} {w : Int} (h : CsOk cs) (hw : 65536 ≤ w) {i : Nat} (hi : i < cs.length) : 1024 ≤ bord w cs (i + 1) - bord w cs i := by
  have hs := h.sum
  have hl := h.le
  unfold bord
  rw [sum_take_succ hi]
  have hc := h.pos _ (List.getElem_mem hi)
  have hb := (sum_take_le h.pos i).1
  generalize (cs.take i).sum = b at hb
  generalize cs[i] = c at hc
  generalize cs.sum = t at hs hl
  have h1 : w * (b + c) = w * b + w * c := by rw [Int.mul_add]
  have h2 : 1024 * t ≤ w * c := by
    have : 65536 * 1 ≤ w * c := Int.mul_le_mul hw hc (by decide) (by omega)
    omega
  have h3 : w * b / t + 1024 ≤ (w * b + w * c) / t := by
    have : (w * b + 1024 * t) / t = w * b / t + 1024 := by rw [Int.add_mul_ediv_right _ _ (by omega)]
    rw [← this]
    exact Int.ediv_le_ediv (by omega) (by omega)
  rw [h1]; omega
theorem bord_zero (w : Int) (cs : List Int) : bord w cs 0 = 0 := by simp [bord]
theorem bord_all {w : Int} {cs : List Int} (h : CsOk cs) : bord w cs cs.length = w := by
  have := h.sum
  unfold bord
  rw [List.take_length, Int.mul_ediv_cancel _ (by omega)]
theorem bord_le {w : Int} {cs : List Int} (h : CsOk cs) (hw : 0 ≤ w) (i : Nat) : 0 ≤ bord w cs i ∧ bord w cs i ≤ w := by
  have hs := h.sum
  have hb := sum_take_le h.pos i
  unfold bord
  refine ⟨Int.ediv_nonneg (Int.mul_nonneg hw hb.1) (by omega), ?_⟩
  refine Int.le_trans (Int.ediv_le_ediv (by omega) (Int.mul_le_mul_of_nonneg_left hb.2 hw)) ?_
  rw [Int.mul_ediv_cancel _ (by omega)]
  omega
theorem isK_le {w : Int} {k : Nat} (h : IsK w k) (hw : 1024 ≤ w) : k ≤ 6 := by
  refine Nat.le_of_not_lt fun c => ?_
  have := h.2 6 (by omega)
  omega
theorem isK_lt {w : Int} {k : Nat} (h : IsK w k) (hw : w < 131072) : w * 2 ^ k < 131072 := by
  cases k with
  | zero => simp; exact hw
  | succ k =>
    have := h.2 k (by omega)
    rw [Int.pow_succ, ← Int.mul_assoc]; omega
/-- a table learns -/
def learnL (cs : List Int) (j : Nat) : List Int := if (cs.set j (cs.getD j 0 + 2)).sum > 64 then (cs.set j (cs.getD j 0 + 2)).map (fun o => (o + 1) / 2) else cs.set j (cs.getD j 0 + 2)
theorem learnL_len (cs : List Int) (j : Nat) : (learnL cs j).length = cs.length := by unfold learnL; split <;> simp
open PySem L2
/-! one step that needs no thought -/
local macro_rules | `(tactic| walk_at "cond") => `(tactic| first
  | decide
  | exact .inl ⟨by decide, by decide⟩
  | exact .inr ⟨by decide, by decide⟩
  | exact ⟨by decide, by decide⟩
  | exact ⟨by decide, by decide, by decide⟩
  | assumption
  | (show (0 : Int) < _; omega)
  | (show (0 : Int) ≤ _; omega)
  | exact .inl ⟨by omega, by omega⟩
  | exact .inr ⟨by omega, by omega⟩
  | exact ⟨by omega, by omega⟩
  | exact ⟨by omega, by omega, by omega⟩)
local macro_rules | `(tactic| walk_at "sq") => `(tactic| first
  | assumption
  | exact SqL.of (by assumption)
  | exact SqT.of (by assumption)
  | exact SqL.of upd_same
  | exact SqT.of upd_same)
local macro_rules | `(tactic| walk_at "r1") => `(tactic| first
  | (with_reducible refine s_seq ?_)
  | (with_reducible refine s_next ?_)
  | (with_reducible refine s_asg ?_)
  | (with_reducible refine s_gname ?_)
  | (with_reducible refine s_ret ?_)
  | (with_reducible refine s_if ?_)
  | (with_reducible refine s_drop ?_)
  | (with_reducible refine s_op ?_)
  | (with_reducible refine s_c ?_)
  | (with_reducible refine s_tup ?_)
  | (with_reducible refine s_lst ?_)
  | (with_reducible refine s_nil ?_)
  | (with_reducible refine s_cons ?_)
  | (with_reducible refine s_call ?_)
  | (with_reducible refine s_cb ?_)
  | (with_reducible refine s_test ?_)
  | (with_reducible refine s_tB ?_)
  | (with_reducible refine s_b ?_)
  | (with_reducible refine s_not ?_)
  | (with_reducible refine s_and ?_)
  | (with_reducible refine s_or ?_)
  | (with_reducible refine s_un ?_)
  | (with_reducible refine s_U ?_)
  | (with_reducible refine s_ifE ?_)
  | (with_reducible refine s_andV0 ?_)
  | (with_reducible refine s_orV0 ?_)
  | (with_reducible refine s_notV ?_)
  | (with_reducible refine s_I0 ?_)
  | (with_reducible refine s_chain ?_)
  | (with_reducible refine s_par3 ?_)
  | (with_reducible refine s_par ?_)
  | (with_reducible refine s_v2 ?_)
  | (with_reducible refine s_v3 ?_)
  | (with_reducible refine s_eqI ?_)
  | (with_reducible refine s_neI ?_)
  | (with_reducible refine s_eqS ?_)
  | (with_reducible refine s_neS ?_)
  | (with_reducible refine s_max2 ?_)
  | (with_reducible refine s_min2 ?_)
  | (with_reducible refine s_int1 ?_)
  | (with_reducible refine s_int1b ?_)
  | ((with_reducible refine' s_var ?h ?q); (case h => rfl))
  | (with_reducible refine s_for ?_)
  | (with_reducible refine s_iR1 ?_)
  | (with_reducible refine s_iR2 ?_)
  | (with_reducible refine s_iR3 ?_)
  | (with_reducible refine s_sl ?_)
  | (with_reducible refine s_part ?_)
  | (with_reducible refine s_nopart ?_)
  | (with_reducible refine s_iL ?_)
  | (with_reducible refine s_iT ?_)
  | (with_reducible refine s_iS ?_)
  | (with_reducible refine s_lc ?_)
  | (with_reducible refine s_yes ?_)
  | ((with_reducible refine' s_wipe ?h ?q); (case h => rfl))
  | (with_reducible refine s_callK0 ?_)
  | (with_reducible refine s_bits ?_)
  | (with_reducible refine s_i ?_)
  | (with_reducible refine s_bm ?_)
  | (with_reducible refine s_bm0 ?_)
  | (with_reducible refine s_m1 ?_)
  | (with_reducible refine s_callK ?_)
  | (with_reducible refine s_gsub ?_)
  | ((with_reducible refine' s_gtup ?h ?e ?q); (case h => walk_at "sq"); (case e => rfl))
  | (with_reducible refine s_gcons ?_)
  | (with_reducible refine s_gnil ?_)
  | ((with_reducible refine s_I ?c ?q); (case c => walk_at "cond"))
  | ((with_reducible refine' s_ixL ?h ?a ?q); (case h => walk_at "sq"); (case a => rfl))
  | ((with_reducible refine' s_ixT ?h ?a ?q); (case h => walk_at "sq"); (case a => rfl))
  | ((with_reducible refine' s_setL ?h ?a ?q); (case h => first | assumption | exact upd_same); (case a => rfl))
  | ((with_reducible refine' s_len ?h ?q); (case h => walk_at "sq"))
  | ((with_reducible refine' s_lenT ?h ?q); (case h => walk_at "sq"))
  | (with_reducible refine iteT ?_)
  | (with_reducible refine iteF ?_)
  | (with_reducible refine itNF ?_)
  | (with_reducible refine itNT ?_))
local macro_rules | `(tactic| walk_at "r") => `(tactic| (repeat walk_at "r1"))
local macro_rules | `(tactic| walk_at "r1") => `(tactic| (with_reducible refine s_callS ?_))
local macro_rules | `(tactic| walk_at "r1") => `(tactic| first
  | (with_reducible refine s_make ?_)
  | (with_reducible refine s_meth ?_)
  | (with_reducible refine s_prop ?_)
  | (with_reducible refine s_fld ?_)
  | (with_reducible refine s_sfld ?_)
  | (with_reducible refine s_methK0 ?_))
def topS (i : Nat) : Stmt := PySem.Challenge.pw_narrowingbits_k06_letters_fill_the_node.main.body.getD i (.Pass ⟨0, 0, 0, 0⟩)
structure Zs (K : PySem.W.Frag) (mg : Str → Option Value) : Prop where
  z_enumerate : mg "enumerate" = none
  z_int : mg "int" = none
  z_isinstance : mg "isinstance" = none
  z_len : mg "len" = none
  z_list : mg "list" = none
  z_max : mg "max" = none
  z_min : mg "min" = none
  z_range : mg "range" = none
  z_sum : mg "sum" = none
  z_tuple : mg "tuple" = none
  e_GAIN : ∃ t, mg "GAIN" = some (.int (2) t)
  e_LEAST_WIDTH : ∃ t, mg "LEAST_WIDTH" = some (.int (65536) t)
  e_MOST_TOTAL : ∃ t, mg "MOST_TOTAL" = some (.int (64) t)
  x_NarrowError : ExF K mg "NarrowError"
  x_Outside : ExF K mg "Outside"
  s_NarrowError_NarrowError : PySem.W.subIn K (.ref (exA mg "NarrowError")) (.ref (exA mg "NarrowError")) = some true
  k_NarrowError_NarrowError : PySem.W.kitOne K (.ref (exA mg "NarrowError")) (.ref (exA mg "NarrowError")) = some true
  s_NarrowError_Outside : PySem.W.subIn K (.ref (exA mg "NarrowError")) (.ref (exA mg "Outside")) = some false
  k_NarrowError_Outside : PySem.W.kitOne K (.ref (exA mg "NarrowError")) (.ref (exA mg "Outside")) = some false
  s_Outside_NarrowError : PySem.W.subIn K (.ref (exA mg "Outside")) (.ref (exA mg "NarrowError")) = some true
  k_Outside_NarrowError : PySem.W.kitOne K (.ref (exA mg "Outside")) (.ref (exA mg "NarrowError")) = some true
  s_Outside_Outside : PySem.W.subIn K (.ref (exA mg "Outside")) (.ref (exA mg "Outside")) = some true
  k_Outside_Outside : PySem.W.kitOne K (.ref (exA mg "Outside")) (.ref (exA mg "Outside")) = some true
  t_ROOT : mg "ROOT" = some (.ref (exA mg "ROOT")) ∧ ∀ H, SqT K H (exA mg "ROOT") [.int 0, .int 65536, .int 16]
  o_Table : ClF K mg "Table"
  n_Table__counts : NoAttr K (exA mg "Table") "_counts"
theorem Zs.c_GAIN {K : PySem.W.Frag} {mg : Str → Option Value} (Z : Zs K mg) : mg "GAIN" = some (.int (2) (Classical.choose Z.e_GAIN)) := Classical.choose_spec Z.e_GAIN
theorem Zs.c_LEAST_WIDTH {K : PySem.W.Frag} {mg : Str → Option Value} (Z : Zs K mg) : mg "LEAST_WIDTH" = some (.int (65536) (Classical.choose Z.e_LEAST_WIDTH)) := Classical.choose_spec Z.e_LEAST_WIDTH
theorem Zs.c_MOST_TOTAL {K : PySem.W.Frag} {mg : Str → Option Value} (Z : Zs K mg) : mg "MOST_TOTAL" = some (.int (64) (Classical.choose Z.e_MOST_TOTAL)) := Classical.choose_spec Z.e_MOST_TOTAL
def SqNode (K : PySem.W.Frag) (H : Hp) (a : Addr) (l w : Int) (sc : Nat) : Prop := SqT K H a [.int l, .int w, .int sc]
def sp_next_node (K : PySem.W.Frag) (mg : Str → Option Value) : Sp := SpN 3 fun vs H Q E => ∃ (a b : Addr) (l w : Int) (sc : Nat) (cs : List Int) (j : Int), vs = [.ref a, .ref b, .int j] ∧ SqNode K H a l w sc ∧ SqN K H b cs ∧
  ((0 ≤ j ∧ j.toNat < cs.length ∧ CsOk cs ∧ 65536 ≤ w ∧ w < 131072 ∧ ∀ k p H', IsK (bord w cs (j.toNat + 1) - bord w cs j.toNat) k → Same H H' → H p = none → H' p = some (.tup [.int ((l + bord w cs j.toNat) * 2 ^ k), .int ((bord w cs (j.toNat + 1) - bord w cs j.toNat) * 2 ^ k), .int ((sc + k : Nat) : Int)]) → Q (.ref p) H') ∨
   (¬ (0 ≤ j ∧ j < cs.length) ∧ E (.ref (exA mg "Outside")) none H))
abbrev TabO (mg : Str → Option Value) (H : Hp) (p : Addr) (dx l : Addr) (cs : List Int) : Prop := H p = some (.ins (exA mg "Table") dx [("_counts", .ref l)]) ∧ H l = some (.lst (cs.map V.int))
def sp_Table___init__ (_ : PySem.W.Frag) (mg : Str → Option Value) : Sp := SpN 2 fun vs H Q E => ∃ (p dx : Addr) (m : Int), vs = [.ref p, .int m] ∧ H p = some (.ins (exA mg "Table") dx []) ∧
  (((m = 2 ∨ m = 3) ∧ ∀ l l0 t H1 H', Same H H1 → H t = none → H1 l0 = some (.lst [.int 1]) → H l0 = none → H1 l = none → H' = upd (upd H1 l (.lst ((List.replicate m.toNat 1).map V.int))) p (.ins (exA mg "Table") dx [("_counts", .ref l)]) → Q .non H') ∨
   (¬ (m = 2 ∨ m = 3) ∧ ∀ H', Same H H' → E (.ref (exA mg "Outside")) none H'))
def sp_Table_counts (_ : PySem.W.Frag) (mg : Str → Option Value) : Sp := SpN 1 fun vs H Q _ => ∃ (p dx l : Addr) (cs : List Int), vs = [.ref p] ∧ TabO mg H p dx l cs ∧ ∀ q, H q = none → Q (.ref q) (upd H q (.lst (cs.map V.int)))
def sp_Table_total (_ : PySem.W.Frag) (mg : Str → Option Value) : Sp := SpN 1 fun vs H Q _ => ∃ (p dx l : Addr) (cs : List Int), vs = [.ref p] ∧ TabO mg H p dx l cs ∧ Q (.int cs.sum) H
def sp_Table_learn (_ : PySem.W.Frag) (mg : Str → Option Value) : Sp := SpN 2 fun vs H Q E => ∃ (F : Hp) (p dx l : Addr) (cs : List Int) (j : Int), vs = [.ref p, .int j] ∧ TabO mg H p dx l cs ∧ cs.length ≤ 100 ∧ Same F H ∧ F p = none ∧ F l = none ∧
  ((0 ≤ j ∧ j.toNat < cs.length ∧ ∀ l' H', TabO mg H' p dx l' (learnL cs j.toNat) → Same F H' → F l' = none → (l' = l ∨ H l' = none) → (∀ b, b ≠ p → b ≠ l → ∀ o, H b = some o → H' b = some o) → Q .non H') ∨
   (¬ (0 ≤ j ∧ j < cs.length) ∧ E (.ref (exA mg "Outside")) none H))
def sp_law_pool (K : PySem.W.Frag) (_ : Str → Option Value) : Sp := SpN 2 fun vs H Q _ => ∃ (s : Addr) (ns : List Int) (k : Int), vs = [.ref s, .int k] ∧ SqL K H s (ns.map V.int) ∧ 0 ≤ k ∧ k < 100 ∧
  ∀ p H', Src H H' p → Q (.ref p) H'
def sp_law_take (_ : PySem.W.Frag) (_ : Str → Option Value) : Sp := SpN 2 fun vs H Q _ => ∃ (F : Hp) (p : Addr) (t : Int), vs = [.ref p, .int t] ∧ Src F H p ∧ 0 < t ∧ t < 2 ^ 62 ∧
  ∀ r H', Src F H' p → Stp (S1 p) F H F H' → 0 ≤ r → r < t → Q (.int r) H'
def sp_law_one (K : PySem.W.Frag) (_ : Str → Option Value) : Sp := SpN 2 fun vs H Q _ => ∃ (F : Hp) (p q : Addr) (ns : List Int), vs = [.ref p, .ref q] ∧ Src F H p ∧ SqL K H q (ns.map V.int) ∧ q ≠ p ∧ 0 < ns.length ∧ ns.length < 1000 ∧
  ∀ r H', Src F H' p → Stp (S1 p) F H F H' → r ∈ ns → Q (.int r) H'
def sp_law_counts (_ : PySem.W.Frag) (_ : Str → Option Value) : Sp := SpN 1 fun vs H Q _ => ∃ (F : Hp) (p : Addr), vs = [.ref p] ∧ Src F H p ∧
  ∀ q cs F' H', Src F' H' p → Stp (S1 p) F H F' H' → F' q = some (.lst (cs.map V.int)) → CsOk cs → cs.length ≤ 3 → Q (.ref q) H'
def sp_law_borders (K : PySem.W.Frag) (_ : Str → Option Value) : Sp := SpN 2 fun vs H Q _ => ∃ (a : Addr) (w : Int) (cs : List Int), vs = [.int w, .ref a] ∧ SqL K H a (cs.map V.int) ∧ CsOk cs ∧ cs.length ≤ 3 ∧ 0 ≤ w ∧ w < 2 ^ 40 ∧
  ∀ p H', Same H H' → H p = none → H' p = some (.lst (((List.range (cs.length + 1)).map (bord w cs)).map V.int)) → Q (.ref p) H'
def sp_law_child (K : PySem.W.Frag) (_ : Str → Option Value) : Sp := SpN 3 fun vs H Q _ => ∃ (a b : Addr) (l w : Int) (sc : Nat) (cs : List Int) (j : Nat), vs = [.ref a, .ref b, .int j] ∧ SqNode K H a l w sc ∧ SqL K H b (cs.map V.int) ∧ j < cs.length ∧ cs.length ≤ 3 ∧ CsOk cs ∧ 65536 ≤ w ∧ w < 131072 ∧
  ∀ k p H', IsK (bord w cs (j + 1) - bord w cs j) k → Same H H' → H p = none → H' p = some (.tup [.int ((l + bord w cs j) * 2 ^ k), .int ((bord w cs (j + 1) - bord w cs j) * 2 ^ k), .int ((sc + k : Nat) : Int)]) → Q (.ref p) H'
structure NodeOk (l w : Int) (sc : Nat) : Prop where
  w0 : 65536 ≤ w
  w1 : w < 131072
  l0 : 0 ≤ l
  l1 : l < 2 ^ 61
  s1 : sc ≤ 61
def sp_law_node (_ : PySem.W.Frag) (_ : Str → Option Value) : Sp := SpN 1 fun vs H Q _ => ∃ (F : Hp) (p : Addr), vs = [.ref p] ∧ Src F H p ∧
  ∀ q l w sc F' H', Src F' H' p → Stp (S1 p) F H F' H' → F' q = some (.tup [.int l, .int w, .int ((sc : Nat) : Int)]) → NodeOk l w sc → Q (.ref q) H'
def sp_law_is_outside (K : PySem.W.Frag) (_ : Str → Option Value) : Sp := SpN 3 fun vs H Q _ => ∃ (a b : Addr) (l w : Int) (sc : Nat) (cs : List Int) (j : Int), vs = [.ref a, .ref b, .int j] ∧ SqNode K H a l w sc ∧ SqN K H b cs ∧ ¬ (0 ≤ j ∧ j < cs.length) ∧ ∀ H', Same H H' → Q (.bl true) H'
def sp_law_is_right (K : PySem.W.Frag) (_ : Str → Option Value) : Sp := SpN 2 fun vs H Q _ => ∃ (a b : Addr) (l w : Int) (sc : Nat) (cs : List Int), vs = [.ref a, .ref b] ∧ SqNode K H a l w sc ∧ SqL K H b (cs.map V.int) ∧ CsOk cs ∧ cs.length ≤ 3 ∧ NodeOk l w sc ∧ ∀ H', Same H H' → Q (.bl true) H'
def sp_law_learned (K : PySem.W.Frag) (_ : Str → Option Value) : Sp := SpN 2 fun vs H Q _ => ∃ (a : Addr) (cs : List Int) (j : Nat), vs = [.ref a, .int j] ∧ SqL K H a (cs.map V.int) ∧ cs.length ≤ 3 ∧ j < cs.length ∧
  ∀ p H', Same H H' → H p = none → H' p = some (.lst ((learnL cs j).map V.int)) → Q (.ref p) H'
def tt_law_is_refused (_ : PySem.W.Frag) (mg : Str → Option Value) : (XK → Hp → VK → Prop) → Hp → VK → Prop := fun tl H Q =>
  tl (fun cls d H' => d = none ∧ cls = .ref (exA mg "Outside") ∧ Q (.bl true) H') H fun _ _ => False
def sp_law_table_right (T : Tbs) (_ : PySem.W.Frag) (_ : Str → Option Value) : Sp := SpN 1 fun vs H Q _ => ∃ (F : Hp) (p : Addr), vs = [.ref p] ∧ Src F H p ∧ NoT F ∧ LamX.Tabs T H ∧ ∀ H', Same F H' → LamX.Tabs T H' → Q (.bl true) H'
def sp_law (T : Tbs) (K : PySem.W.Frag) (_ : Str → Option Value) : Sp := SpN 1 fun vs H Q _ => ∃ (a : Addr) (ns : List Int), vs = [.ref a] ∧ SqL K H a (ns.map V.int) ∧ ns.length ≤ 63 ∧ LamX.Tabs T H ∧ ∀ H', Q (.bl true) H'
theorem tabs_two {T : Tbs} {H H' : Hp} {tb l C dx : Addr} {fs : List (Str × V)} {xs : List V} (t : LamX.Tabs T H) (h1 : H tb = some (.ins C dx fs)) (h2 : H l = some (.lst xs)) (k : ∀ b, b ≠ tb → b ≠ l → ∀ o, H b = some o → H' b = some o) : LamX.Tabs T H' := fun q hq => by
  obtain ⟨ps, e1, e2, e3⟩ := t q hq
  refine ⟨ps, k _ (fun z => ?_) (fun z => ?_) _ e1, e2, fun pos cv hc => ?_⟩
  · rw [z, h1] at e1; cases e1
  · rw [z, h2] at e1; cases e1
  · obtain ⟨c, c1, c2⟩ := e3 pos cv hc
    refine ⟨c, c1, k _ (fun z => ?_) (fun z => ?_) _ c2⟩
    · rw [z, h1] at c2; unfold LamX.CodeO at c2; cases c2
    · rw [z, h2] at c2; unfold LamX.CodeO at c2; cases c2
def it33 : Nat → List Int
  | 0 => [1, 1]
  | n + 1 => learnL (it33 n) 0
theorem it33_len : ∀ n, (it33 n).length = 2
  | 0 => rfl
  | n + 1 => by rw [it33, learnL_len, it33_len n]
theorem it33_end : it33 33 = [35, 1] := by decide +kernel
/-- a table beside the source -/
structure TabP (mg : Str → Option Value) (T : Tbs) (F H : Hp) (p tb dx l : Addr) (cs : List Int) : Prop where
  s : Src F H p
  o : TabO mg H tb dx l cs
  n1 : tb ≠ p
  n2 : l ≠ p
  f1 : F tb = none
  f2 : F l = none
  t : LamX.Tabs T H
section
variable {mg : Str → Option Value} {T : Tbs} {F H H' H2 : Hp} {p tb dx l : Addr} {cs : List Int}
theorem TabP.make {H1 H3 H4 : Hp} (s1 : Src F H1 p) (T1 : LamX.Tabs T H1) (htb : H1 tb = none) (hdx : H1 dx = none) (e2 : upd (upd H1 dx (.own tb)) tb (.ins (exA mg "Table") dx []) = H2) (e3 : Same H2 H3) (hl : H3 l = none) (e4 : H4 = upd (upd H3 l (.lst (cs.map V.int))) tb (.ins (exA mg "Table") dx [("_counts", .ref l)])) : TabP mg T F H4 p tb dx l cs := by
  have e12 : Same H1 H2 := by
    rw [← e2]
    exact fun b o e => by rw [upd_ne (ne_of_none e htb), upd_ne (ne_of_none e hdx)]; exact e
  have o2 : H2 tb = some (.ins (exA mg "Table") dx []) := by rw [← e2]; exact upd_same
  have ntb : tb ≠ p := (s1.ne htb).symm
  have Ftb : F tb = none := s1.1.free htb
  have npl : tb ≠ l := ne_of_none (e3 _ _ o2) hl
  have e13 := e12.trans e3
  have nlp : l ≠ p := ((s1.of e13).ne hl).symm
  have Fl : F l = none := (s1.of e13).1.free hl
  obtain ⟨a, b, x, y, e, w⟩ := s1
  have k : ∀ b, b ≠ tb → ∀ o, H1 b = some o → H4 b = some o := fun b nb o e => by
    have e' := e13 _ _ e
    rw [e4, upd_ne nb, upd_ne (fun z => by rw [z, hl] at e'; cases e')]; exact e'
  refine ⟨⟨fun b o e => k b (fun z => by rw [z, Ftb] at e; cases e) _ (a _ _ e), b, x, y, k p ntb.symm _ e, w⟩, ⟨?_, ?_⟩, ntb, nlp, Ftb, Fl, T1.ext fun b o e => k b (ne_of_none e htb) o e⟩
  · rw [e4, upd_same]
  · rw [e4, upd_ne npl.symm, upd_same]
theorem TabP.draw (z : TabP mg T F H p tb dx l cs) (s : Src F H2 p) (st : Stp (S1 p) F H F H2) : TabP mg T F H2 p tb dx l cs := ⟨s, ⟨st.keep _ _ (fun e => z.n1 e) z.o.1, st.keep _ _ (fun e => z.n2 e) z.o.2⟩, z.n1, z.n2, z.f1, z.f2, z.s.tabs z.t st⟩
theorem TabP.of (z : TabP mg T F H p tb dx l cs) (e : Same H H2) : TabP mg T F H2 p tb dx l cs := ⟨z.s.of e, ⟨e _ _ z.o.1, e _ _ z.o.2⟩, z.n1, z.n2, z.f1, z.f2, z.t.ext e⟩
theorem TabP.new {q : Addr} {o : HO} (z : TabP mg T F H p tb dx l cs) (hq : H q = none) (e : upd H q o = H2) : TabP mg T F H2 p tb dx l cs ∧ Same H H2 ∧ H2 q = some o ∧ q ≠ p := by
  subst e
  have s := (Stp.new (S := S0) (o := o) (Same.refl H) hq).same
  have n := (z.s.ne hq).symm
  exact ⟨⟨z.s.upd n (z.s.1.free hq), ⟨s _ _ z.o.1, s _ _ z.o.2⟩, z.n1, z.n2, z.f1, z.f2, z.t.ext s⟩, s, upd_same, n⟩
theorem TabP.learn {l' : Addr} {ds : List Int} (z : TabP mg T F H p tb dx l cs) (o : TabO mg H' tb dx l' ds) (s : Same F H') (f : F l' = none) (nl : l' = l ∨ H l' = none) (k : ∀ b, b ≠ tb → b ≠ l → ∀ o, H b = some o → H' b = some o) : TabP mg T F H' p tb dx l' ds := by
  obtain ⟨⟨a, b, x, y, e, w⟩, o1, n1, n2, f1, f2, t⟩ := z
  have e' := k p (fun q => n1 q.symm) (fun q => n2 q.symm) _ e
  refine ⟨⟨s, b, x, y, e', w⟩, o, n1, fun q => ?_, f1, f, tabs_two t o1.1 o1.2 k⟩
  rcases nl with nl | nl
  · exact n2 (nl.symm.trans q)
  · rw [q, e] at nl; cases nl
end
theorem law_start {T : Tbs} {K : PySem.W.Frag} {mg : Str → Option Value} {H : Hp} {a : Addr} {ns : List Int} {E : XK} (hl : ns.length ≤ 63) (ht : ∀ t ∈ T, H t.1 = some (.tbl #[])) (hS : SqL K H a (ns.map V.int)) : sp_law T K mg [.ref a] H (fun v _ => v = .bl true) E := ⟨rfl, a, ns, rfl, hS, hl, tabs_nil ht, fun _ => rfl⟩
theorem c_sum {X : Cx} (K : PySem.W.Frag) (e : X.K = K) (hc : X.calm = true) : CallR X (.builtin "sum") (rSum K) := by subst e; exact cr_sum hc
theorem s_iE {K : PySem.W.Frag} {σ : L2.St} {H : Hp} {ta : TA} {R : It → Hp → Prop} (h : ta σ H fun vs H1 => ∃ a xs, vs = [.ref a] ∧ SqL K H1 a xs ∧ R (Ite K a) H1) : iEnum K ta σ H R := h
theorem at_nat' {xs : List V} {j : Nat} {v : V} (h : xs[j]? = some v) : atI xs (j : Int) = some v := atI_nat h
theorem ixN_of {n j : Nat} (h : j < n) : ixN n (j : Int) = some j := by
  unfold ixN
  rw [if_pos (by omega), if_pos (by omega), Int.toNat_natCast]
theorem lenN {K : PySem.W.Frag} {H : Hp} {Q : VK} {b : Addr} {cs : List Int} (hB : SqN K H b cs) (q : Q (.int cs.length) H) : rLen K [.ref b] H Q := ⟨b, cs.map V.int, rfl, hB, by rw [List.length_map]; exact q⟩
theorem seqT' {K : PySem.W.Frag} {H H' : Hp} {a : Addr} {xs : List V} (e : Same H H') (h : SqT K H a xs) : SqT K H' a xs := h.imp (fun h => h.imp (fun h => e _ _ h) fun ⟨o, h⟩ => ⟨o, e _ _ h⟩) fun h => h
theorem SqN.mono {K : PySem.W.Frag} {H H' : Hp} {b : Addr} {cs : List Int} (hB : SqN K H b cs) (s : Same H H') : SqN K H' b cs := hB.imp (fun h => s.seq h) (fun h => seqT' s h)
theorem slN {K : PySem.W.Frag} {H : Hp} {Q : VK} {b : Addr} {cs : List Int} {j : Nat} (hB : SqN K H b cs) (hj : j < cs.length) (h : ∀ q H', Same H H' → SqN K H' q (cs.take j) → Q (.ref q) H') : rSlL K (.ref b) none (some (j : Int)) H Q ∨ rSlT K (.ref b) none (some (j : Int)) H Q := by
  have ec : cutV (cs.map V.int) none (some (j : Int)) = (cs.take j).map V.int := by rw [cutV_to, List.map_take]
  rcases hB with hB | hB
  · exact .inl (s_slL hB fun p hp => h p _ (Stp.new (S := S0) (Same.refl _) hp).same (.inl (SqL.of (by rw [upd_same, ec]))))
  · refine .inr ⟨b, _, rfl, hB, fun z => ?_, fun p hp => h p _ (Stp.new (S := S0) (Same.refl _) hp).same (.inr (SqT.of (by rw [upd_same, ec])))⟩
    have := z.2
    rw [HT.sIx_nat, List.length_map] at this
    omega
theorem ixNN {K : PySem.W.Frag} {H : Hp} {Q : VK} {b : Addr} {cs : List Int} {j : Nat} (hB : SqN K H b cs) (hj : j < cs.length) (q : Q (.int cs[j]) H) : rIxL K (.ref b) (.int (j : Int)) H Q ∨ rIxT K (.ref b) (.int (j : Int)) H Q := by
  rcases hB with hB | hB
  · exact .inl (s_ixL hB (at_nat' (get_int hj)) q)
  · exact .inr (s_ixT hB (at_nat' (get_int hj)) q)
theorem andF {p : Prop} [Decidable p] {A B : Hp → Prop} {t : TT} {σ : L2.St} {H : Hp} (h0 : B H) (h1 : p → B H → t σ H (fun b H1 => if b = true then A H1 else B H1)) : if decide p = true then t σ H (fun b H1 => if b = true then A H1 else B H1) else (if false = true then A H else B H) := by
  by_cases h : p
  · rw [if_pos (decide_eq_true h)]; exact h1 h h0
  · rw [if_neg (by simp [h]), if_neg (by decide)]; exact h0
theorem s_makeK {C : Addr} {n m : Nat} {sp : Sp} {gV : List V → List V → List V} {E : XK} {t tk : TA} {σ : L2.St} {H : Hp} {Q : VK} (h : t σ H fun vs H1 => tk σ H1 fun zs H2 => vs.length = n ∧ zs.length = m ∧ ∀ x dx, H2 x = none → H2 dx = none → dx ≠ x →
  sp (gV (.ref x :: vs) zs) (upd (upd H2 dx (.own x)) x (.ins C dx [])) (fun v H3 => v = .non ∧ Q (.ref x) H3) E) : tMakeK C n m sp gV E t tk σ H Q := h
section
variable {P : Program} {w : World} {K : PySem.W.Frag} {mg : Str → Option Value} {base : Heap}
abbrev s_next_node : Stmt := topS 7
theorem sc_next_node : FnScope ["node", "counts", "j", "left", "width", "scale", "total", "before", "low", "high"] ["node", "counts", "j"] (defScope s_next_node) := ⟨rfl, rfl, rfl, by decide +kernel, rfl, by decide +kernel, by decide +kernel⟩
def Ok_next_node (P : Program) (w : World) (K : PySem.W.Frag) (mg : Str → Option Value) (base : Heap) : Prop := ∃ fA fd, Fn P w K mg base (L2.CX P w) 1 "next_node" s_next_node fA fd ["node", "counts", "j"] (sp_next_node K mg)
theorem okx_next_node (Z : Zs K mg) {fA : Addr} {fd : FuncData} (F : Fun K "next_node" "next_node" s_next_node fA fd) (m : mg "next_node" = some (.ref fA))  : Fn P w K mg base (L2.CX P w) 1 "next_node" s_next_node fA fd ["node", "counts", "j"] (sp_next_node K mg) := by
  refine ⟨F.okX sc_next_node (fun vs H Q E h => h.1) (fun cdv A outer s H vs Q E hr h => ?_), m, F.kp, F.binds fun _ _ _ _ _ _ us hl => match us, hl with | [_, _, _], _ => rfl, F⟩
  have hu64 := hr.units
  obtain ⟨hlen, h⟩ := h
  refine ⟨_, (pss_cons (ps_if (pt_not (pt_chain op_le op_lt pe_int (pv 2) (pe_callB (c_len K rfl) (by rfl) Z.z_len (by decide +kernel) (pa_cons (pv 1) pa_nil))))
      (pss_one (ps_raise rfl (takes_of rfl rfl rfl rfl) (pmk_own0 PySem.F.excBase_ValueError Z.x_Outside.x Z.x_Outside.g Z.x_Outside.k (raises_own Z.x_Outside.b Z.x_Outside.t) rfl)))
      pss_nil)
    (pss_cons (ps_asg (pv 0) (pg_tup rfl (pgs_cons (pg_name (i := 3) sc_next_node.nd rfl (Or.inl rfl)) (pgs_cons (pg_name (i := 4) sc_next_node.nd rfl (Or.inl rfl)) (pgs_cons (pg_name (i := 5) sc_next_node.nd rfl (Or.inl rfl)) pgs_nil)))))
    (pss_cons (ps_par (i := 6) (j := 7) (by rfl) sc_next_node.nd rfl rfl (by decide) rfl rfl (pa_cons (pe_callB (c_sumN K rfl rfl) (by rfl) Z.z_sum (by decide +kernel) (pa_cons (pv 1) pa_nil)) (pa_cons (pe_callB (c_sumN K rfl rfl) (by rfl) Z.z_sum (by decide +kernel) (pa_cons (pe_slice ((l_list K rfl).or (sl_tupK K rfl)) (pv 1) po_none (po_some (pv 2))) pa_nil)) pa_nil)) (by rfl))
    (pss_cons (ps_set (i := 8) sc_next_node.nd rfl (Or.inl rfl) (pe_op op_fdiv (pe_op op_mul (pv 4) (pv 7)) (pv 6)))
    (pss_cons (ps_set (i := 9) sc_next_node.nd rfl (Or.inl rfl) (pe_op op_fdiv (pe_op op_mul (pv 4) (pe_op op_add (pv 7) (pe_ix ((i_list K rfl).or (i_tup K rfl)) (pv 1) (pv 2) (fun _ _ => rfl)))) (pv 6)))
    (pss_cons (ps_par (i := 3) (j := 4) (by rfl) sc_next_node.nd rfl rfl (by decide) rfl rfl (pa_cons (pe_op op_add (pv 3) (pv 8)) (pa_cons (pe_op op_sub (pv 9) (pv 8)) pa_nil)) (by rfl))
    (pss_cons (ps_while (passes_of rfl) (pt_cmpR op_lt (pv 4) (pe_glob (v := .int (65536)) rfl Z.c_LEAST_WIDTH ⟨_, rfl⟩) (nomark _))
      (pss_one (ps_par3 (i := 3) (j := 4) (l := 5) (by rfl) sc_next_node.nd rfl rfl rfl (by decide) (by decide) (by decide) rfl rfl rfl (pa_cons (pe_op op_mul pe_int (pv 3)) (pa_cons (pe_op op_mul pe_int (pv 4)) (pa_cons (pe_op op_add (pv 5) pe_int) pa_nil))) (by rfl))))
    (pss_one (ps_ret (pe_tup (pa_cons (pv 3) (pa_cons (pv 4) (pa_cons (pv 5) pa_nil))))))))))))), ?_⟩
  obtain ⟨a, b, l, w, sc, cs, j, rfl, hN, hB, hh⟩ := h
  walk_at "r"
  refine ifd (fun h0 => ?_) (fun h0 => ?_)
  rotate_left
  · walk_at "r"
    rcases hh with ⟨z, _⟩ | ⟨_, q⟩
    · exact absurd z h0
    · exact q
  walk_at "r"
  refine lenN hB ?_
  walk_at "r"
  refine ifn (fun h1 => ?_) (fun h1 => ?_)
  rotate_left
  · walk_at "r"
    rcases hh with ⟨_, z, _⟩ | ⟨_, q⟩
    · exact absurd (by omega) h1
    · exact q
  walk_at "r"
  rcases hh with ⟨_, hj, hcs, hw, hw2, q⟩ | ⟨z, _⟩
  rotate_left
  · exact absurd ⟨h0, h1⟩ z
  obtain ⟨jn, rfl⟩ : ∃ jn : Nat, j = (jn : Int) := ⟨j.toNat, by omega⟩
  rw [Int.toNat_natCast] at hj q
  have hs := hcs.sum
  have hle := hcs.le
  have hsb := (sum_take_le hcs.pos jn)
  have hsc := sum_take_succ hj
  have hsb2 := (sum_take_le hcs.pos (jn + 1))
  refine ⟨b, cs, rfl, hB, ?_⟩
  walk_at "r"
  refine slN hB hj fun p1 H1 e1 hp1 => ?_
  refine ⟨p1, _, rfl, hp1, ?_⟩
  walk_at "r"
  refine ixNN (hB.mono e1) hj ?_
  walk_at "r"
  rw [← hsc]
  have wide := part_wide hcs hw hj
  obtain ⟨L, hL⟩ : ∃ L, l + w * (cs.take jn).sum / cs.sum = L := ⟨_, rfl⟩
  obtain ⟨W, hW⟩ : ∃ W, w * (cs.take (jn + 1)).sum / cs.sum - w * (cs.take jn).sum / cs.sum = W := ⟨_, rfl⟩
  have q' : ∀ k p H', IsK W k → Same H H' → H p = none → H' p = some (.tup [.int (L * 2 ^ k), .int (W * 2 ^ k), .int ((sc + k : Nat) : Int)]) → Q (.ref p) H' := by
    rw [← hL, ← hW]; exact q
  have wide' : 1024 ≤ W := by rw [← hW]; exact wide
  rw [hL, hW]
  refine whileM (mon_test (mon_op mon_I0 mon_var mon_c)) (fun σ H' => ∃ i : Nat, σ = [some (.ref a), some (.ref b), some (.int (jn : Int)), some (.int (L * 2 ^ i)), some (.int (W * 2 ^ i)), some (.int ((sc + i : Nat) : Int)), some (.int cs.sum), some (.int (cs.take jn).sum), some (.int (w * (cs.take jn).sum / cs.sum)), some (.int (w * (cs.take (jn + 1)).sum / cs.sum))] ∧ H1 = H' ∧ ∀ i' < i, W * 2 ^ i' < 65536) (fun σ _ => match σ with
      | [_, _, _, _, some (.int x), _, _, _, _, _] => (65536 - x).toNat
      | _ => 0) ⟨0, by simp; rfl, rfl, fun _ h => absurd h (by omega)⟩ ?_
  rintro σ H2 ⟨i, rfl, rfl, hi⟩
  have hp : 0 < W * 2 ^ i := Int.mul_pos (by omega) (Int.pow_pos (by decide))
  walk_at "r"
  refine ifd (fun h => ?_) (fun h => ?_)
  · walk_at "r"
    refine ⟨⟨i + 1, ?_, rfl, fun i' hi' => ?_⟩, ?_⟩
    · have e1 : 2 * (L * 2 ^ i) = L * 2 ^ (i + 1) := by rw [Int.pow_succ, Int.mul_comm 2 (L * 2 ^ i), Int.mul_assoc]
      have e2 : 2 * (W * 2 ^ i) = W * 2 ^ (i + 1) := by rw [Int.pow_succ, Int.mul_comm 2 (W * 2 ^ i), Int.mul_assoc]
      have e3 : ((sc + i : Nat) : Int) + 1 = ((sc + (i + 1) : Nat) : Int) := by omega
      rw [e1, e2, e3]; rfl
    · by_cases e : i' = i
      · subst e; exact h
      · exact hi i' (by omega)
    · show (65536 - 2 * (W * 2 ^ i)).toNat < (65536 - W * 2 ^ i).toNat
      omega
  · walk_at "r"
    refine ⟨sz (by simp), fun p hp => ?_⟩
    exact q' i p _ ⟨by omega, hi⟩ (e1.trans (Stp.new (S := S0) (Same.refl _) hp).same) (e1.free hp) upd_same
abbrev s_Table___init__ : Stmt := inClass (topS 11) 0
theorem sc_Table___init__ : FnScope ["self", "m"] ["self", "m"] (defScope s_Table___init__) := ⟨rfl, rfl, rfl, by decide +kernel, rfl, by decide +kernel, by decide +kernel⟩
def Ok_Table___init__ (P : Program) (w : World) (K : PySem.W.Frag) (mg : Str → Option Value) (base : Heap) : Prop := ∃ fA fd, FnC P w K mg base (L2.CX P w) 1 "__init__" "Table.__init__" s_Table___init__ fA fd ["self", "m"] (sp_Table___init__ K mg) ∧ Mk K (exA mg "Table") fA
theorem okx_Table___init__ (Z : Zs K mg) {fA : Addr} {fd : FuncData} (F : Fun K "__init__" "Table.__init__" s_Table___init__ fA fd)  : FnC P w K mg base (L2.CX P w) 1 "__init__" "Table.__init__" s_Table___init__ fA fd ["self", "m"] (sp_Table___init__ K mg) := by
  refine ⟨F.okX sc_Table___init__ (fun vs H Q E h => h.1) (fun cdv A outer s H vs Q E hr h => ?_), F.binds fun _ _ _ _ _ _ us hl => match us, hl with | [_, _], _ => rfl, F⟩
  have hu64 := hr.units
  obtain ⟨hlen, h⟩ := h
  refine ⟨_, (pss_cons (ps_if (pt_cmpR (o_notIn K rfl) (pv 1) (pe_tup (pa_cons pe_int (pa_cons pe_int pa_nil))) rfl)
      (pss_one (ps_raise rfl (takes_of rfl rfl rfl rfl) (pmk_own0 PySem.F.excBase_ValueError Z.x_Outside.x Z.x_Outside.g Z.x_Outside.k (raises_own Z.x_Outside.b Z.x_Outside.t) rfl)))
      pss_nil)
    (pss_one (ps_fld (pv 0) (pe_op op_rep (pe_lst (pa_cons pe_int pa_nil)) (pv 1)) rfl))), ?_⟩
  obtain ⟨p, dx, m, rfl, hp, hh⟩ := h
  walk_at "r"
  refine ⟨sz (by simp), fun t ht => ?_⟩
  have e1 := (Stp.new (S := S0) (o := .tup [.int 2, .int 3]) (Same.refl H) ht).same
  have h1 : upd H t (.tup [.int 2, .int 3]) t = some (.tup ([(2 : Int), 3].map V.int)) := upd_same
  generalize upd H t _ = H1 at e1 h1 ⊢
  refine ⟨t, _, rfl, .inr (SqT.of h1), rfl, flat_ints _, ?_⟩
  rw [if_pos rfl, inV_ints]
  walk_at "r"
  refine ifn (fun z => ?_) (fun z => ?_)
  rotate_left
  · walk_at "r"
    rcases hh with ⟨w, _⟩ | ⟨_, q⟩
    · exact absurd (by simpa using w) z
    · exact q H1 e1
  rcases hh with ⟨hm, q⟩ | ⟨w, _⟩
  rotate_left
  · exact absurd (by simpa using z) w
  walk_at "r"
  refine ⟨sz (by simp), fun l0 hl0 => ?_⟩
  have e2 := (Stp.new (S := S0) (o := .lst [.int 1]) (Same.refl H1) hl0).same
  have h2 : upd H1 l0 (.lst [.int 1]) l0 = some (.lst [.int 1]) := upd_same
  generalize upd H1 l0 _ = H2 at e2 h2 ⊢
  walk_at "r"
  refine s_rep h2 (by omega) (by omega) fun l hl => ?_
  have npl : p ≠ l := ne_of_none (e2 _ _ (e1 _ _ hp)) hl
  walk_at "r"
  refine ⟨p, _, dx, _, rfl, by rw [upd_ne npl]; exact e2 _ _ (e1 _ _ hp), Z.o_Table.cl, Z.n_Table__counts, by decide, ?_⟩
  refine q l l0 t H2 _ (e1.trans e2) ht h2 (e1.free hl0) hl ?_
  rw [List.map_replicate]; rfl
abbrev s_Table_counts : Stmt := inClass (topS 11) 1
theorem sc_Table_counts : FnScope ["self"] ["self"] (defScope s_Table_counts) := ⟨rfl, rfl, rfl, by decide +kernel, rfl, by decide +kernel, by decide +kernel⟩
def Ok_Table_counts (P : Program) (w : World) (K : PySem.W.Frag) (mg : Str → Option Value) (base : Heap) : Prop := ∃ fA fd pA, FnC P w K mg base (L2.CX P w) 1 "counts" "Table.counts" s_Table_counts fA fd ["self"] (sp_Table_counts K mg) ∧ PropOf K (exA mg "Table") "counts" pA fA
theorem okx_Table_counts (Z : Zs K mg) {fA : Addr} {fd : FuncData} (F : Fun K "counts" "Table.counts" s_Table_counts fA fd)  : FnC P w K mg base (L2.CX P w) 1 "counts" "Table.counts" s_Table_counts fA fd ["self"] (sp_Table_counts K mg) := by
  refine ⟨F.okX sc_Table_counts (fun vs H Q E h => h.1) (fun cdv A outer s H vs Q E hr h => ?_), F.binds fun _ _ _ _ _ _ us hl => match us, hl with | [_], _ => rfl, F⟩
  have hu64 := hr.units
  obtain ⟨hlen, h⟩ := h
  refine ⟨_, (pss_one (ps_ret (pe_callTy call_list_of (by rfl) Z.z_list (by decide +kernel) (pa_cons (pe_fld (pv 0) rfl) pa_nil)))), ?_⟩
  obtain ⟨p, dx, l, cs, rfl, ⟨hp, hl⟩, q⟩ := h
  walk_at "r"
  refine ⟨p, _, dx, _, _, rfl, hp, Z.o_Table.cl, Z.n_Table__counts, rfl, ?_⟩
  exact ⟨l, _, rfl, .inl (SqL.of hl), q⟩
abbrev s_Table_total : Stmt := inClass (topS 11) 2
theorem sc_Table_total : FnScope ["self"] ["self"] (defScope s_Table_total) := ⟨rfl, rfl, rfl, by decide +kernel, rfl, by decide +kernel, by decide +kernel⟩
def Ok_Table_total (P : Program) (w : World) (K : PySem.W.Frag) (mg : Str → Option Value) (base : Heap) : Prop := ∃ fA fd pA, FnC P w K mg base (L2.CX P w) 1 "total" "Table.total" s_Table_total fA fd ["self"] (sp_Table_total K mg) ∧ PropOf K (exA mg "Table") "total" pA fA
theorem okx_Table_total (Z : Zs K mg) {fA : Addr} {fd : FuncData} (F : Fun K "total" "Table.total" s_Table_total fA fd)  : FnC P w K mg base (L2.CX P w) 1 "total" "Table.total" s_Table_total fA fd ["self"] (sp_Table_total K mg) := by
  refine ⟨F.okX sc_Table_total (fun vs H Q E h => h.1) (fun cdv A outer s H vs Q E hr h => ?_), F.binds fun _ _ _ _ _ _ us hl => match us, hl with | [_], _ => rfl, F⟩
  have hu64 := hr.units
  obtain ⟨hlen, h⟩ := h
  refine ⟨_, (pss_one (ps_ret (pe_callB (c_sum K rfl rfl) (by rfl) Z.z_sum (by decide +kernel) (pa_cons (pe_fld (pv 0) rfl) pa_nil)))), ?_⟩
  obtain ⟨p, dx, l, cs, rfl, ⟨hp, hl⟩, q⟩ := h
  walk_at "r"
  refine ⟨p, _, dx, _, _, rfl, hp, Z.o_Table.cl, Z.n_Table__counts, rfl, ?_⟩
  exact ⟨l, _, rfl, SqL.of hl, q⟩
abbrev s_Table_learn : Stmt := inClass (topS 11) 3
theorem sc_Table_learn : FnScope ["self", "j", "one"] ["self", "j"] (defScope s_Table_learn) := ⟨rfl, rfl, rfl, by decide +kernel, rfl, by decide +kernel, by decide +kernel⟩
def Ok_Table_learn (P : Program) (w : World) (K : PySem.W.Frag) (mg : Str → Option Value) (base : Heap) : Prop := ∃ fA fd, FnC P w K mg base (L2.CX P w) 1 "learn" "Table.learn" s_Table_learn fA fd ["self", "j"] (sp_Table_learn K mg) ∧ Meth K (exA mg "Table") "learn" fA
theorem okx_Table_learn (Z : Zs K mg) {fA : Addr} {fd : FuncData} (F : Fun K "learn" "Table.learn" s_Table_learn fA fd)  : FnC P w K mg base (L2.CX P w) 1 "learn" "Table.learn" s_Table_learn fA fd ["self", "j"] (sp_Table_learn K mg) := by
  refine ⟨F.okX sc_Table_learn (fun vs H Q E h => h.1) (fun cdv A outer s H vs Q E hr h => ?_), F.binds fun _ _ _ _ _ _ us hl => match us, hl with | [_, _], _ => rfl, F⟩
  have hu64 := hr.units
  obtain ⟨hlen, h⟩ := h
  refine ⟨_, (pss_cons (ps_if (pt_not (pt_chain op_le op_lt pe_int (pv 1) (pe_callB (c_len K rfl) (by rfl) Z.z_len (by decide +kernel) (pa_cons (pe_fld (pv 0) rfl) pa_nil))))
      (pss_one (ps_raise rfl (takes_of rfl rfl rfl rfl) (pmk_own0 PySem.F.excBase_ValueError Z.x_Outside.x Z.x_Outside.g Z.x_Outside.k (raises_own Z.x_Outside.b Z.x_Outside.t) rfl)))
      pss_nil)
    (pss_cons (ps_asg (pe_op op_add (pe_ix (i_list K rfl) (pe_fld (pv 0) rfl) (pv 1) (fun _ _ => rfl)) (pe_glob (v := .int (2)) rfl Z.c_GAIN ⟨_, rfl⟩)) (pg_sub (pe_fld (pv 0) rfl) (pv 1) set_list))
    (pss_one (ps_if (pt_cmpR op_gt (pe_callB (c_sum K rfl rfl) (by rfl) Z.z_sum (by decide +kernel) (pa_cons (pe_fld (pv 0) rfl) pa_nil)) (pe_glob (v := .int (64)) rfl Z.c_MOST_TOTAL ⟨_, rfl⟩) (nomark _))
      (pss_one (ps_fld (pv 0) (pe_lc (own := [("one", 2)]) (g := gName 2) (tt := tYes) (by rfl) sc_Table_learn.nd (pi_list (pe_fld (pv 0) rfl)) (blkOk_by (own := [("one", 2)]) (N := ["self", "j", "one"]) (sc := defScope s_Table_learn) (by decide +kernel)) (fun _ _ _ _ _ => (pg_name (i := 2) sc_Table_learn.nd rfl (Or.inl rfl))) (fun _ _ _ _ _ => pts_nil) (fun _ _ _ _ _ => (pe_op op_fdiv (pe_op op_add (pv 2) pe_int) pe_int))) rfl))
      pss_nil)))), ?_⟩
  obtain ⟨F, p, dx, l, cs, j, rfl, ⟨hp, hl⟩, hc100, hF, Fp, Fl, hh⟩ := h
  have nlp : l ≠ p := ne_of hl hp (by intro q; cases q)
  walk_at "r"
  refine ifd (fun h0 => ?_) (fun h0 => ?_)
  rotate_left
  · walk_at "r"
    rcases hh with ⟨z, _⟩ | ⟨_, q⟩
    · exact absurd z h0
    · exact q
  walk_at "r"
  refine ⟨p, _, dx, _, _, rfl, hp, Z.o_Table.cl, Z.n_Table__counts, rfl, ?_⟩
  walk_at "r"
  rw [List.length_map]
  refine ifn (fun h1 => ?_) (fun h1 => ?_)
  rotate_left
  · walk_at "r"
    rcases hh with ⟨_, z, _⟩ | ⟨_, q⟩
    · exact absurd (by omega) h1
    · exact q
  rcases hh with ⟨_, hj, q⟩ | ⟨z, _⟩
  rotate_left
  · exact absurd ⟨h0, h1⟩ z
  obtain ⟨jn, rfl⟩ : ∃ jn : Nat, j = (jn : Int) := ⟨j.toNat, by omega⟩
  rw [Int.toNat_natCast] at hj q
  walk_at "r"
  refine ⟨p, _, dx, _, _, rfl, hp, Z.o_Table.cl, Z.n_Table__counts, rfl, ?_⟩
  walk_at "r"
  refine s_ixL (SqL.of hl) (at_nat' (get_int hj)) ?_
  walk_at "r"
  refine ⟨p, _, dx, _, _, rfl, hp, Z.o_Table.cl, Z.n_Table__counts, rfl, ?_⟩
  walk_at "r"
  refine s_setL hl (ixN_of (by rw [List.length_map]; exact hj)) ?_
  have hset : (cs.map V.int).set jn (.int (cs[jn] + 2)) = (cs.set jn (cs.getD jn 0 + 2)).map V.int := by
    rw [List.map_set, List.getD_eq_getElem?_getD, List.getElem?_eq_getElem hj]; rfl
  rw [hset]
  obtain ⟨ds, hds⟩ : ∃ ds, cs.set jn (cs.getD jn 0 + 2) = ds := ⟨_, rfl⟩
  have hdl : ds.length = cs.length := by rw [← hds, List.length_set]
  have hlearn : learnL cs jn = if ds.sum > 64 then ds.map (fun o => (o + 1) / 2) else ds := by unfold learnL; rw [hds]
  rw [hds]
  have F1 : Same F (upd H l (.lst (ds.map V.int))) := fun b o e => by
    rw [upd_ne (fun z => by rw [z, Fl] at e; cases e)]; exact hF _ _ e
  have hp1 : upd H l (.lst (ds.map V.int)) p = some (.ins (exA mg "Table") dx [("_counts", .ref l)]) := by rw [upd_ne nlp.symm]; exact hp
  have hl1 : upd H l (.lst (ds.map V.int)) l = some (.lst (ds.map V.int)) := upd_same
  have o1 : ∀ b, b ≠ p → b ≠ l → ∀ o, H b = some o → upd H l (.lst (ds.map V.int)) b = some o := fun b _ nb o e => by rw [upd_ne nb]; exact e
  generalize upd H l _ = H1 at F1 hp1 hl1 o1 ⊢
  walk_at "r"
  refine ⟨p, _, dx, _, _, rfl, hp1, Z.o_Table.cl, Z.n_Table__counts, rfl, ?_⟩
  refine ⟨l, ds, rfl, SqL.of hl1, ?_⟩
  walk_at "r"
  refine ifd (fun h2 => ?_) (fun h2 => ?_)
  · walk_at "r"
    refine ⟨p, _, dx, _, _, rfl, hp1, Z.o_Table.cl, Z.n_Table__counts, rfl, ?_⟩
    refine ⟨l, rfl, ⟨_, SqL.of hl1⟩, ?_⟩
    refine lcW (walk_list (xs := ds.map V.int)) S0 (Same.refl H1) (fun _ z => z.elim) (fun F2 H2 st => SqL.of (st.same _ _ hl1)) (fun i acc F H => acc = ((ds.take i).map (fun o => (o + 1) / 2)).map V.int) (fun _ _ _ _ _ _ _ _ _ r => r) rfl ?_ ?_
    · rintro i x acc d F2 H2' H2 hi ⟨rfl, hx⟩ hd nS st f0 e hl2 rr
      have hi' : i < ds.length := by simpa using hi
      rw [List.getElem?_map, List.getElem?_eq_getElem hi'] at hx
      obtain rfl := Option.some.inj hx
      walk_at "r"
      refine lc_end hd nS st f0 e hl2 (by omega) (.rfl' st.fh) ?_
      rw [rr, List.take_succ_eq_append_getElem hi', List.map_append, List.map_append]; rfl
    · intro d acc F2 F3 H2 st hd f0 ef st1 hl2 rr
      rw [List.length_map, List.take_length] at rr
      have hd2 : H2 d = some (.lst acc) := by rw [ef] at st1; exact st1.fh _ _ upd_same
      have npd : p ≠ d := ne_of_none hp1 hd
      walk_at "r"
      refine ⟨p, _, dx, _, rfl, st.same _ _ hp1, Z.o_Table.cl, Z.n_Table__counts, (by show 1 < 1000; decide), ?_⟩
      have Fd : F d = none := F1.free hd
      have hdl2 : d ≠ l := fun z => by rw [z, hl1] at hd; cases hd
      have Hd : H d = none := by
        cases z : H d with
        | none => rfl
        | some o => rw [o1 d npd.symm hdl2 o z] at hd; cases hd
      refine q d _ ⟨upd_same, ?_⟩ (fun b o e => ?_) Fd (.inr Hd) (fun b nb1 nb2 o e => ?_)
      · rw [upd_ne npd.symm, hd2, rr, hlearn, if_pos h2]
      · rw [upd_ne (fun z => by rw [z, Fp] at e; cases e)]; exact st.same _ _ (F1 _ _ e)
      · rw [upd_ne nb1]; exact st.same _ _ (o1 b nb1 nb2 o e)
  · walk_at "r"
    rw [if_neg h2] at hlearn
    exact q l H1 ⟨hp1, by rw [hlearn]; exact hl1⟩ F1 Fl (.inl rfl) o1
abbrev s_law_pool : Stmt := topS 13
theorem sc_law_pool : FnScope ["_law_script", "_law_k", "_law_cell", "_law_big", "_law_mixed"] ["_law_script", "_law_k"] (defScope s_law_pool) := ⟨rfl, rfl, rfl, by decide +kernel, rfl, by decide +kernel, by decide +kernel⟩
def Ok_law_pool (P : Program) (w : World) (K : PySem.W.Frag) (mg : Str → Option Value) (base : Heap) : Prop := ∃ fA fd, Fn P w K mg base (L2.CX P w) 1 "_law_pool" s_law_pool fA fd ["_law_script", "_law_k"] (sp_law_pool K mg)
theorem okx_law_pool (Z : Zs K mg) {fA : Addr} {fd : FuncData} (F : Fun K "_law_pool" "_law_pool" s_law_pool fA fd) (m : mg "_law_pool" = some (.ref fA))  : Fn P w K mg base (L2.CX P w) 1 "_law_pool" s_law_pool fA fd ["_law_script", "_law_k"] (sp_law_pool K mg) := by
  refine ⟨F.okX sc_law_pool (fun vs H Q E h => h.1) (fun cdv A outer s H vs Q E hr h => ?_), m, F.kp, F.binds fun _ _ _ _ _ _ us hl => match us, hl with | [_, _], _ => rfl, F⟩
  have hu64 := hr.units
  obtain ⟨hlen, h⟩ := h
  refine ⟨_, (pss_cons (ps_set (i := 2) sc_law_pool.nd rfl (Or.inl rfl) pe_int)
    (pss_cons (ps_if (pt_cmpR op_lt (pv 1) (pe_callB (c_len K rfl) (by rfl) Z.z_len (by decide +kernel) (pa_cons (pv 0) pa_nil)) (nomark _))
      (pss_one (ps_set (i := 2) sc_law_pool.nd rfl (Or.inl rfl) (pe_ix (i_list K rfl) (pv 0) (pv 1) (fun _ _ => rfl))))
      pss_nil)
    (pss_cons (ps_set (i := 3) sc_law_pool.nd rfl (Or.inl rfl) (pe_callB (c_max2 rfl) (by rfl) Z.z_max (by decide +kernel) (pa_cons (pe_callTy c_int1 (by rfl) Z.z_int (by decide +kernel) (pa_cons (pv 2) pa_nil)) (pa_cons (pe_callTy c_int1 (by rfl) Z.z_int (by decide +kernel) (pa_cons (pe_op op_sub (pe_un un_neg pe_int) (pv 2)) pa_nil)) pa_nil))))
    (pss_cons (ps_set (i := 4) sc_law_pool.nd rfl (Or.inl rfl) (pe_op op_mod (pe_callTy c_int1 (by rfl) Z.z_int (by decide +kernel) (pa_cons (pe_op op_mul (pe_op op_add (pe_op op_add (pe_op op_add (pe_op op_mod (pe_callTy c_int1 (by rfl) Z.z_int (by decide +kernel) (pa_cons (pv 3) pa_nil)) pe_int) (pe_op op_mul (pe_op op_mul pe_int (pv 1)) (pv 1))) (pe_op op_mul pe_int (pv 1))) pe_int) pe_int) pa_nil)) pe_int))
    (pss_one (ps_ret (pe_lst (pa_cons (pe_op op_mul (pv 3) (pe_callTy c_int1 (by rfl) Z.z_int (by decide +kernel) (pa_cons (pe_cmpR op_ge (pv 3) (pe_op op_pow pe_int pe_int) (nomark _)) pa_nil))) (pa_cons (pv 4) pa_nil))))))))), ?_⟩
  obtain ⟨s, ns, k, rfl, hS, hk0, hk, q⟩ := h
  have fin : ∀ (x y : Int), 0 ≤ y → y < 2147483647 → (∀ p, H p = none → Q (.ref p) (upd H p (.lst [.int x, .int y]))) := fun x y y0 y1 p hp =>
    q p _ ⟨(Stp.new (S := S0) (Same.refl H) hp).same, hp, x, y, upd_same, y0, y1⟩
  walk_at "r"
  refine ifd (fun h => ?_) (fun h => ?_)
  · walk_at "r"
    have hl : k.toNat < ns.length := by simp at h; omega
    refine s_ixL hS (at_of (j := k.toNat) (by omega) (get_int hl)) ?_
    walk_at "r"
    exact ⟨sz (by simp), fin _ _ (Int.emod_nonneg _ (by decide)) (Int.emod_lt_of_pos _ (by decide))⟩
  · walk_at "r"
    exact ⟨sz (by simp), fin _ _ (Int.emod_nonneg _ (by decide)) (Int.emod_lt_of_pos _ (by decide))⟩
abbrev s_law_take : Stmt := topS 14
theorem sc_law_take : FnScope ["_law_source", "_law_most", "_law_drawn"] ["_law_source", "_law_most"] (defScope s_law_take) := ⟨rfl, rfl, rfl, by decide +kernel, rfl, by decide +kernel, by decide +kernel⟩
def Ok_law_take (P : Program) (w : World) (K : PySem.W.Frag) (mg : Str → Option Value) (base : Heap) : Prop := ∃ fA fd, Fn P w K mg base (L2.CX P w) 1 "_law_take" s_law_take fA fd ["_law_source", "_law_most"] (sp_law_take K mg)
theorem okx_law_take (Z : Zs K mg) {fA : Addr} {fd : FuncData} (F : Fun K "_law_take" "_law_take" s_law_take fA fd) (m : mg "_law_take" = some (.ref fA))  : Fn P w K mg base (L2.CX P w) 1 "_law_take" s_law_take fA fd ["_law_source", "_law_most"] (sp_law_take K mg) := by
  refine ⟨F.okX sc_law_take (fun vs H Q E h => h.1) (fun cdv A outer s H vs Q E hr h => ?_), m, F.kp, F.binds fun _ _ _ _ _ _ us hl => match us, hl with | [_, _], _ => rfl, F⟩
  have hu64 := hr.units
  obtain ⟨hlen, h⟩ := h
  refine ⟨_, (pss_cons (ps_if (pt_cmpR op_gt (pe_ix (i_list K rfl) (pv 0) pe_int (fun _ _ => rfl)) pe_int (nomark _))
      (pss_cons (ps_set (i := 2) sc_law_take.nd rfl (Or.inl rfl) (pe_op op_mod (pe_callTy c_int1 (by rfl) Z.z_int (by decide +kernel) (pa_cons (pe_ix (i_list K rfl) (pv 0) pe_int (fun _ _ => rfl)) pa_nil)) (pv 1)))
    (pss_cons (ps_asg (pe_op op_fdivW (pe_ix (i_list K rfl) (pv 0) pe_int (fun _ _ => rfl)) (pv 1)) (pg_sub (pv 0) pe_int set_list))
    (pss_one (ps_ret (pv 2)))))
      pss_nil)
    (pss_cons (ps_asg (pe_op op_mod (pe_callTy c_int1 (by rfl) Z.z_int (by decide +kernel) (pa_cons (pe_op op_add (pe_op op_mul (pe_ix (i_list K rfl) (pv 0) pe_int (fun _ _ => rfl)) pe_int) pe_int) pa_nil)) pe_int) (pg_sub (pv 0) pe_int set_list))
    (pss_one (ps_ret (pe_op op_mod (pe_callTy c_int1 (by rfl) Z.z_int (by decide +kernel) (pa_cons (pe_op op_fdiv (pe_op op_mod (pe_callTy c_int1 (by rfl) Z.z_int (by decide +kernel) (pa_cons (pe_op op_mul (pe_ix (i_list K rfl) (pv 0) pe_int (fun _ _ => rfl)) (pe_ix (i_list K rfl) (pv 0) pe_int (fun _ _ => rfl))) pa_nil)) pe_int) pe_int) pa_nil)) (pv 1)))))), ?_⟩
  obtain ⟨F0, p, t, rfl, hs, ht, ht2, q⟩ := h
  obtain ⟨hs0, hp0, a, b, hp, hb0, hb1⟩ := id hs
  have st : ∀ o, Stp (S1 p) F0 H F0 (upd H p o) := fun o => Stp.wr hs0 rfl hp0
  walk_at "r"
  refine ifd (fun h => ?_) (fun h => ?_)
  · walk_at "r"
    refine ⟨_, _, rfl, rfl, wide_div (b := 62) ht (by omega) (by decide) (by decide), ?_⟩
    walk_at "r"
    exact q _ _ (hs.wr hb0 hb1) (st _) (Int.emod_nonneg _ (by omega)) (Int.emod_lt_of_pos _ ht)
  · walk_at "r"
    exact q _ _ (hs.wr (Int.emod_nonneg _ (by decide)) (Int.emod_lt_of_pos _ (by decide))) (st _) (Int.emod_nonneg _ (by omega)) (Int.emod_lt_of_pos _ ht)
abbrev s_law_one : Stmt := topS 15
theorem sc_law_one : FnScope ["_law_source", "_law_things"] ["_law_source", "_law_things"] (defScope s_law_one) := ⟨rfl, rfl, rfl, by decide +kernel, rfl, by decide +kernel, by decide +kernel⟩
def Ok_law_one (P : Program) (w : World) (K : PySem.W.Frag) (mg : Str → Option Value) (base : Heap) : Prop := ∃ fA fd, Fn P w K mg base (L2.CX P w) 2 "_law_one" s_law_one fA fd ["_law_source", "_law_things"] (sp_law_one K mg)
theorem okx_law_one (Z : Zs K mg) {fA : Addr} {fd : FuncData} (F : Fun K "_law_one" "_law_one" s_law_one fA fd) (m : mg "_law_one" = some (.ref fA)) (C_law_take : Ok_law_take P w K mg base) : Fn P w K mg base (L2.CX P w) 2 "_law_one" s_law_one fA fd ["_law_source", "_law_things"] (sp_law_one K mg) := by
  obtain ⟨_, _, C_law_take⟩ := C_law_take
  refine ⟨F.okX sc_law_one (fun vs H Q E h => h.1) (fun cdv A outer s H vs Q E hr h => ?_), m, F.kp, F.binds fun _ _ _ _ _ _ us hl => match us, hl with | [_, _], _ => rfl, F⟩
  have hu64 := hr.units
  obtain ⟨hlen, h⟩ := h
  refine ⟨_, (pss_one (ps_ret (pe_ix (i_list K rfl) (pv 1) (pe_call C_law_take.G (hr.mono (by decide)) rfl C_law_take.m C_law_take.kp C_law_take.b .nil passL (pa_cons (pv 0) (pa_cons (pe_callB (c_len K rfl) (by rfl) Z.z_len (by decide +kernel) (pa_cons (pv 1) pa_nil)) pa_nil))) (fun _ _ => rfl)))), ?_⟩
  obtain ⟨F0, p, a, ns, rfl, hs, hn, np, hn0, hn1, q⟩ := h
  walk_at "r"
  rw [List.length_map]
  refine ⟨rfl, F0, p, _, rfl, hs, by omega, by omega, fun r H1 s1 st1 r0 r1 => ?_⟩
  walk_at "r"
  have hl : r.toNat < ns.length := by omega
  have hn' : SqL K H1 a (ns.map V.int) := by
    rcases hn with (h | ⟨o, h⟩) | h
    · exact .inl (.inl (st1.keep _ _ (fun z => np z) h))
    · exact .inl (.inr ⟨o, st1.keep _ _ (fun z => np z) h⟩)
    · exact .inr h
  exact s_ixL hn' (at_of (j := r.toNat) (by omega) (get_int hl)) (q _ _ s1 st1 (List.getElem_mem hl))
abbrev s_law_counts : Stmt := topS 16
theorem sc_law_counts : FnScope ["_law_source", "_law_m", "_law_left", "_law_counts_here", "_law_turn", "_law_more"] ["_law_source"] (defScope s_law_counts) := ⟨rfl, rfl, rfl, by decide +kernel, rfl, by decide +kernel, by decide +kernel⟩
def Ok_law_counts (P : Program) (w : World) (K : PySem.W.Frag) (mg : Str → Option Value) (base : Heap) : Prop := ∃ fA fd, Fn P w K mg base (L2.CX P w) 3 "_law_counts" s_law_counts fA fd ["_law_source"] (sp_law_counts K mg)
theorem okx_law_counts (Z : Zs K mg) {fA : Addr} {fd : FuncData} (F : Fun K "_law_counts" "_law_counts" s_law_counts fA fd) (m : mg "_law_counts" = some (.ref fA)) (C_law_one : Ok_law_one P w K mg base) (C_law_take : Ok_law_take P w K mg base) : Fn P w K mg base (L2.CX P w) 3 "_law_counts" s_law_counts fA fd ["_law_source"] (sp_law_counts K mg) := by
  obtain ⟨_, _, C_law_one⟩ := C_law_one
  obtain ⟨_, _, C_law_take⟩ := C_law_take
  refine ⟨F.okX sc_law_counts (fun vs H Q E h => h.1) (fun cdv A outer s H vs Q E hr h => ?_), m, F.kp, F.binds fun _ _ _ _ _ _ us hl => match us, hl with | [_], _ => rfl, F⟩
  have hu64 := hr.units
  obtain ⟨hlen, h⟩ := h
  refine ⟨_, (pss_cons (ps_set (i := 1) sc_law_counts.nd rfl (Or.inl rfl) (pe_op op_add pe_int (pe_call C_law_take.G (hr.mono (by decide)) rfl C_law_take.m C_law_take.kp C_law_take.b .nil passL (pa_cons (pv 0) (pa_cons pe_int pa_nil)))))
    (pss_cons (ps_par (i := 2) (j := 3) (by rfl) sc_law_counts.nd rfl rfl (by decide) rfl rfl (pa_cons (pe_op op_sub pe_int (pv 1)) (pa_cons (pe_lst pa_nil) pa_nil)) (by rfl))
    (pss_cons (ps_for (passes_of rfl) rfl (pi_range1 rfl Z.z_range (pa_cons (pv 1) pa_nil)) (pg_name (i := 4) sc_law_counts.nd rfl (Or.inl rfl))
      (pss_cons (ps_set (i := 5) sc_law_counts.nd rfl (Or.inl rfl) (pe_call C_law_one.G (hr.mono (by decide)) rfl C_law_one.m C_law_one.kp C_law_one.b .nil passL (pa_cons (pv 0) (pa_cons (pe_lst (pa_cons pe_int (pa_cons (pe_call C_law_take.G (hr.mono (by decide)) rfl C_law_take.m C_law_take.kp C_law_take.b .nil passL (pa_cons (pv 0) (pa_cons (pe_op op_add (pv 2) pe_int) pa_nil))) (pa_cons (pe_callB (c_min2 rfl) (by rfl) Z.z_min (by decide +kernel) (pa_cons (pv 2) (pa_cons (pe_call C_law_take.G (hr.mono (by decide)) rfl C_law_take.m C_law_take.kp C_law_take.b .nil passL (pa_cons (pv 0) (pa_cons pe_int pa_nil))) pa_nil))) (pa_cons (pv 2) pa_nil))))) pa_nil))))
    (pss_cons (ps_set (i := 2) sc_law_counts.nd rfl (Or.inl rfl) (pe_op op_sub (pv 2) (pv 5)))
    (pss_one (ps_expr (pe_bm PySem.F.plainAttrs_list PySem.F.slot_list_append PySem.F.type_list_append mt_append (pv 3) (pa_cons (pe_op op_add pe_int (pv 5)) pa_nil)))))))
    (pss_one (ps_ret (pv 3)))))), ?_⟩
  obtain ⟨F, p, rfl, s0, q⟩ := h
  walk_at "r"
  refine ⟨rfl, F, p, _, rfl, s0, by decide, by decide, fun r1 H1 s1 t1 r10 r11 => ?_⟩
  obtain ⟨m, hm⟩ : ∃ m : Nat, 2 + r1 = (m : Int) := ⟨(2 + r1).toNat, by omega⟩
  walk_at "r"
  rw [hm]
  refine ⟨sz (by simp), fun f hf => ?_⟩
  generalize eX : upd H1 f _ = H2
  obtain ⟨s2, t2, e2, ff2, nf, fF, f0⟩ := scr s1 t1 hf eX
  clear eX
  walk_at "r"
  refine ⟨_, rfl, by omega, by omega, ?_⟩
  rw [Int.toNat_natCast]
  refine forR (fun i σ H' => ∃ (lf : Int) (v4 v5 : Option V) (cs : List Int), σ = [some (.ref p), some (.int (m : Int)), some (.int lf), some (.ref f), v4, v5] ∧ Src F H' p ∧ Stp (S1 p) F H F H' ∧ H' f = some (.lst (cs.map V.int)) ∧ cs.length = i ∧ (∀ c ∈ cs, 1 ≤ c) ∧ 0 ≤ lf ∧ lf + cs.sum = 64 - (m : Int) + (i : Int)) ⟨_, _, _, [], rfl, s2, t2, ff2, rfl, by simp, by omega, by simp⟩ ?_ ?_
  · rintro i σ H3 hi ⟨lf, v4, v5, cs, rfl, s3, t3, f3, hcl, hcp, hlf, hsum⟩
    have hsp := sum_pos cs hcp
    walk_at "r"
    refine ⟨rfl, F, p, _, rfl, s3, by omega, by omega, fun a1 H4 s4 t4 a10 a11 => ?_⟩
    have f4 := t4.keep _ _ (fun z => nf z) f3
    replace t4 := t3.trans t4
    walk_at "r"
    refine ⟨rfl, F, p, _, rfl, s4, by decide, by decide, fun a2 H5 s5 t5 a20 a21 => ?_⟩
    have f5 := t5.keep _ _ (fun z => nf z) f4
    replace t5 := t4.trans t5
    walk_at "r"
    refine ⟨sz (by simp), fun l1 hl1 => ?_⟩
    have nfl := ne_of_none f5 hl1
    generalize eX : upd H5 l1 _ = H6
    obtain ⟨s6, t6, e6, fl1, nl1, -, -⟩ := scr s5 t5 hl1 eX
    clear eX
    have f6 := e6 _ _ f5
    walk_at "r"
    refine ⟨rfl, F, p, l1, [0, a1, if a2 < lf then a2 else lf, lf], rfl, s6, SqL.of fl1, nl1, by simp, by simp, fun mo H7 s7 t7 mmo => ?_⟩
    have f7 := t7.keep _ _ (fun z => nf z) f6
    replace t7 := t6.trans t7
    have hmo : 0 ≤ mo ∧ mo ≤ lf := by
      simp only [List.mem_cons, List.not_mem_nil, or_false] at mmo
      split at mmo <;> omega
    walk_at "r"
    refine ⟨.inl ⟨rfl, _, SqL.of f7⟩, ?_⟩
    walk_at "r"
    refine ⟨f, _, _, rfl, rfl, f7, Nat.lt_of_lt_of_le (m := 10000) (by rw [List.length_map]; omega) (by decide), ?_⟩
    obtain ⟨s8, t8⟩ := wrZ (o := .lst (cs.map V.int ++ [.int (1 + mo)])) s7 t7 nf fF f0
    refine ⟨_, _, _, cs ++ [1 + mo], rfl, s8, t8, by rw [upd_same]; simp, by rw [List.length_append, List.length_singleton, hcl], fun c hc => ?_, by omega, ?_⟩
    · rcases List.mem_append.mp hc with hc | hc
      · exact hcp c hc
      · rw [List.mem_singleton.mp hc]; omega
    · rw [List.sum_append]; simp; omega
  · rintro σ H3 ⟨lf, v4, v5, cs, rfl, s3, t3, f3, hcl, hcp, hlf, hsum⟩
    walk_at "r"
    obtain ⟨F4, s4, t4, ff4, f4, -⟩ := keepZ s3 t3 nf fF f0 f3
    exact q f cs F4 H3 s4 t4 f4 ⟨hcp, by omega, by omega⟩ (by omega)
abbrev s_law_borders : Stmt := topS 17
theorem sc_law_borders : FnScope ["_law_width", "_law_counts_here", "_law_ahead", "_law_at", "_law_one_here"] ["_law_width", "_law_counts_here"] (defScope s_law_borders) := ⟨rfl, rfl, rfl, by decide +kernel, rfl, by decide +kernel, by decide +kernel⟩
def Ok_law_borders (P : Program) (w : World) (K : PySem.W.Frag) (mg : Str → Option Value) (base : Heap) : Prop := ∃ fA fd, Fn P w K mg base (L2.CX P w) 1 "_law_borders" s_law_borders fA fd ["_law_width", "_law_counts_here"] (sp_law_borders K mg)
theorem okx_law_borders (Z : Zs K mg) {fA : Addr} {fd : FuncData} (F : Fun K "_law_borders" "_law_borders" s_law_borders fA fd) (m : mg "_law_borders" = some (.ref fA))  : Fn P w K mg base (L2.CX P w) 1 "_law_borders" s_law_borders fA fd ["_law_width", "_law_counts_here"] (sp_law_borders K mg) := by
  refine ⟨F.okX sc_law_borders (fun vs H Q E h => h.1) (fun cdv A outer s H vs Q E hr h => ?_), m, F.kp, F.binds fun _ _ _ _ _ _ us hl => match us, hl with | [_, _], _ => rfl, F⟩
  have hu64 := hr.units
  obtain ⟨hlen, h⟩ := h
  refine ⟨_, (pss_cons (ps_setLc (i := 2) (own := [("_law_at", 3)]) (g := gName 3) (tt := tYes) (by rfl) sc_law_borders.nd rfl rfl (sw_true rfl rfl rfl (by decide +kernel)) (pi_range1 rfl Z.z_range (pa_cons (pe_op op_add (pe_callB (c_len K rfl) (by rfl) Z.z_len (by decide +kernel) (pa_cons (pv 1) pa_nil)) pe_int) pa_nil)) (blkOk_by (own := [("_law_at", 3)]) (N := ["_law_width", "_law_counts_here", "_law_ahead", "_law_at", "_law_one_here"]) (sc := defScope s_law_borders) (by decide +kernel)) (fun _ _ _ _ _ => (pg_name (i := 3) sc_law_borders.nd rfl (Or.inl rfl))) (fun _ _ _ _ _ => pts_nil) (fun _ _ _ _ _ => (pe_callB (c_sum K rfl rfl) (by rfl) Z.z_sum (by decide +kernel) (pa_cons (pe_slice (l_list K rfl) (pv 1) po_none (po_some (pv 3))) pa_nil))))
    (pss_one (ps_ret (pe_lc (own := [("_law_one_here", 4)]) (g := gName 4) (tt := tYes) (by rfl) sc_law_borders.nd (pi_list (pv 2)) (blkOk_by (own := [("_law_one_here", 4)]) (N := ["_law_width", "_law_counts_here", "_law_ahead", "_law_at", "_law_one_here"]) (sc := defScope s_law_borders) (by decide +kernel)) (fun _ _ _ _ _ => (pg_name (i := 4) sc_law_borders.nd rfl (Or.inl rfl))) (fun _ _ _ _ _ => pts_nil) (fun _ _ _ _ _ => (pe_op op_fdiv (pe_op op_mul (pv 0) (pv 4)) (pe_callB (c_sum K rfl rfl) (by rfl) Z.z_sum (by decide +kernel) (pa_cons (pv 1) pa_nil)))))))), ?_⟩
  obtain ⟨a, w, cs, rfl, ha, hcs, hc3, hw, hw2, q⟩ := h
  have hs := hcs.sum
  have hle := hcs.le
  walk_at "r"
  rw [List.length_map]
  refine ⟨_, rfl, by omega, by omega, ?_⟩
  have en : ((cs.length : Int) + 1).toNat = cs.length + 1 := by omega
  rw [en]
  refine lcW walk_range S0 (Same.refl H) (fun _ z => z.elim) (fun _ _ _ => trivial) (fun i acc F1 H1 => acc = ((List.range i).map fun i => (cs.take i).sum).map V.int) (fun _ _ _ _ _ _ _ _ _ r => r) rfl ?_ ?_
  · rintro j x acc d F1 H1 H2 hj ⟨rfl, rfl⟩ hd nS st f0 e hl rr
    have ej : (0 : Int) + (j : Int) = ((j : Nat) : Int) := by omega
    dsimp only
    rw [ej]
    walk_at "r"
    refine s_slL (st.same.seq ha) fun p hp => ?_
    rw [cutV_to, ← List.map_take]
    have s4 := Stp.new (S := S0) (o := .lst ((cs.take j).map V.int)) st.fh hp
    refine ⟨p, cs.take j, rfl, SqL.of upd_same, ?_⟩
    refine lc_end hd nS st f0 e hl (by omega) s4 ?_
    rw [rr, List.range_succ]; simp
  · intro d acc F1 F2 H1 st hd f0 ef st1 hl rr
    have hd1 : H1 d = some (.lst (((List.range (cs.length + 1)).map fun i => (cs.take i).sum).map V.int)) := by rw [ef] at st1; rw [st1.fh _ _ upd_same, rr]
    walk_at "r"
    refine ⟨d, rfl, ⟨_, SqL.of hd1⟩, ?_⟩
    refine lcW (walk_list (xs := ((List.range (cs.length + 1)).map fun i => (cs.take i).sum).map V.int)) S0 (Same.refl H1) (fun _ z => z.elim) (fun F2 H2 s2 => SqL.of (s2.same _ _ hd1)) (fun i acc F1 H1 => acc = ((List.range i).map (bord w cs)).map V.int) (fun _ _ _ _ _ _ _ _ _ r => r) rfl ?_ ?_
    · rintro j x acc2 d2 F3 H3' H3 hj ⟨rfl, hx⟩ hd2 nS st2 f02 e hl2 rr2
      have hj' : j < cs.length + 1 := by simpa using hj
      rw [List.getElem?_map, List.getElem?_map, List.getElem?_range hj'] at hx
      obtain rfl := Option.some.inj hx
      have hb := sum_take_le hcs.pos j
      walk_at "r"
      refine ⟨a, cs, rfl, (st.same.trans st2.same).seq ha, ?_⟩
      walk_at "r"
      refine lc_end hd2 nS st2 f02 e hl2 (by omega) (.rfl' st2.fh) ?_
      rw [rr2, List.range_succ]; simp [bord]
    · intro d2 acc2 F3 F4 H3 st2 hd2 f02 ef2 st3 hl2 rr2
      have hd3 : H3 d2 = some (.lst acc2) := by rw [ef2] at st3; exact st3.fh _ _ upd_same
      refine q d2 H3 (st.same.trans st2.same) (st.same.free hd2) ?_
      rw [hd3, rr2]
      simp
abbrev s_law_child : Stmt := topS 18
theorem sc_law_child : FnScope ["_law_node_here", "_law_counts_here", "_law_letter", "_law_left", "_law_width", "_law_scale", "_law_borders_here"] ["_law_node_here", "_law_counts_here", "_law_letter"] (defScope s_law_child) := ⟨rfl, rfl, rfl, by decide +kernel, rfl, by decide +kernel, by decide +kernel⟩
def Ok_law_child (P : Program) (w : World) (K : PySem.W.Frag) (mg : Str → Option Value) (base : Heap) : Prop := ∃ fA fd, Fn P w K mg base (L2.CX P w) 2 "_law_child" s_law_child fA fd ["_law_node_here", "_law_counts_here", "_law_letter"] (sp_law_child K mg)
theorem okx_law_child (Z : Zs K mg) {fA : Addr} {fd : FuncData} (F : Fun K "_law_child" "_law_child" s_law_child fA fd) (m : mg "_law_child" = some (.ref fA)) (C_law_borders : Ok_law_borders P w K mg base) : Fn P w K mg base (L2.CX P w) 2 "_law_child" s_law_child fA fd ["_law_node_here", "_law_counts_here", "_law_letter"] (sp_law_child K mg) := by
  obtain ⟨_, _, C_law_borders⟩ := C_law_borders
  refine ⟨F.okX sc_law_child (fun vs H Q E h => h.1) (fun cdv A outer s H vs Q E hr h => ?_), m, F.kp, F.binds fun _ _ _ _ _ _ us hl => match us, hl with | [_, _, _], _ => rfl, F⟩
  have hu64 := hr.units
  obtain ⟨hlen, h⟩ := h
  refine ⟨_, (pss_cons (ps_asg (pv 0) (pg_tup rfl (pgs_cons (pg_name (i := 3) sc_law_child.nd rfl (Or.inl rfl)) (pgs_cons (pg_name (i := 4) sc_law_child.nd rfl (Or.inl rfl)) (pgs_cons (pg_name (i := 5) sc_law_child.nd rfl (Or.inl rfl)) pgs_nil)))))
    (pss_cons (ps_set (i := 6) sc_law_child.nd rfl (Or.inl rfl) (pe_call C_law_borders.G (hr.mono (by decide)) rfl C_law_borders.m C_law_borders.kp C_law_borders.b .nil passL (pa_cons (pv 4) (pa_cons (pv 1) pa_nil))))
    (pss_cons (ps_par (i := 3) (j := 4) (by rfl) sc_law_child.nd rfl rfl (by decide) rfl rfl (pa_cons (pe_op op_add (pv 3) (pe_ix (i_list K rfl) (pv 6) (pv 2) (fun _ _ => rfl))) (pa_cons (pe_op op_sub (pe_ix (i_list K rfl) (pv 6) (pe_op op_add (pv 2) pe_int) (fun _ _ => rfl)) (pe_ix (i_list K rfl) (pv 6) (pv 2) (fun _ _ => rfl))) pa_nil)) (by rfl))
    (pss_cons (ps_while (passes_of rfl) (pt_cmpR op_lt (pv 4) pe_int (nomark _))
      (pss_one (ps_par3 (i := 3) (j := 4) (l := 5) (by rfl) sc_law_child.nd rfl rfl rfl (by decide) (by decide) (by decide) rfl rfl rfl (pa_cons (pe_op op_mul pe_int (pv 3)) (pa_cons (pe_op op_mul pe_int (pv 4)) (pa_cons (pe_op op_add (pv 5) pe_int) pa_nil))) (by rfl))))
    (pss_one (ps_ret (pe_tup (pa_cons (pv 3) (pa_cons (pv 4) (pa_cons (pv 5) pa_nil)))))))))), ?_⟩
  obtain ⟨a, b, l, w, sc, cs, j, rfl, hN, hB, hj, hc3, hcs, hw, hw2, q⟩ := h
  walk_at "r"
  refine ⟨rfl, b, w, cs, rfl, hB, hcs, hc3, by omega, by omega, fun p1 H1 e1 p10 hp1 => ?_⟩
  have hg : ∀ i, i ≤ cs.length → (((List.range (cs.length + 1)).map (bord w cs)).map V.int)[i]? = some (.int (bord w cs i)) := fun i hi => by
    rw [List.getElem?_map, List.getElem?_map, List.getElem?_range (by omega)]; rfl
  have wide := part_wide hcs hw hj
  have ej : (j : Int) + 1 = ((j + 1 : Nat) : Int) := by omega
  walk_at "r"
  refine s_ixL (SqL.of hp1) (at_nat' (hg j (by omega))) ?_
  walk_at "r"
  rw [ej]
  refine s_ixL (SqL.of hp1) (at_nat' (hg (j + 1) (by omega))) ?_
  walk_at "r"
  refine s_ixL (SqL.of hp1) (at_nat' (hg j (by omega))) ?_
  walk_at "r"
  obtain ⟨L, hL⟩ : ∃ L, l + bord w cs j = L := ⟨_, rfl⟩
  obtain ⟨W, hW⟩ : ∃ W, bord w cs (j + 1) - bord w cs j = W := ⟨_, rfl⟩
  rw [hL, hW] at q
  rw [hW] at wide
  rw [hL, hW]
  refine whileM (mon_test (mon_op mon_I0 mon_var mon_c)) (fun σ H' => ∃ i : Nat, σ = [some (.ref a), some (.ref b), some (.int (j : Int)), some (.int (L * 2 ^ i)), some (.int (W * 2 ^ i)), some (.int ((sc + i : Nat) : Int)), some (.ref p1)] ∧ H1 = H' ∧ ∀ i' < i, W * 2 ^ i' < 65536) (fun σ _ => match σ with
      | [_, _, _, _, some (.int x), _, _] => (65536 - x).toNat
      | _ => 0) ⟨0, by simp; rfl, rfl, fun _ h => absurd h (by omega)⟩ ?_
  rintro σ H2 ⟨i, rfl, rfl, hi⟩
  have hp : 0 < W * 2 ^ i := Int.mul_pos (by omega) (Int.pow_pos (by decide))
  walk_at "r"
  refine ifd (fun h => ?_) (fun h => ?_)
  · walk_at "r"
    refine ⟨⟨i + 1, ?_, rfl, fun i' hi' => ?_⟩, ?_⟩
    · have e1 : 2 * (L * 2 ^ i) = L * 2 ^ (i + 1) := by rw [Int.pow_succ, Int.mul_comm 2 (L * 2 ^ i), Int.mul_assoc]
      have e2 : 2 * (W * 2 ^ i) = W * 2 ^ (i + 1) := by rw [Int.pow_succ, Int.mul_comm 2 (W * 2 ^ i), Int.mul_assoc]
      have e3 : ((sc + i : Nat) : Int) + 1 = ((sc + (i + 1) : Nat) : Int) := by omega
      rw [e1, e2, e3]; rfl
    · by_cases e : i' = i
      · subst e; exact h
      · exact hi i' (by omega)
    · show (65536 - 2 * (W * 2 ^ i)).toNat < (65536 - W * 2 ^ i).toNat
      omega
  · walk_at "r"
    refine ⟨sz (by simp), fun p hp => ?_⟩
    exact q i p _ ⟨by omega, hi⟩ (e1.trans (Stp.new (S := S0) (Same.refl _) hp).same) (e1.free hp) upd_same
abbrev s_law_node : Stmt := topS 19
theorem sc_law_node : FnScope ["_law_source", "_law_scale", "_law_width", "_law_room"] ["_law_source"] (defScope s_law_node) := ⟨rfl, rfl, rfl, by decide +kernel, rfl, by decide +kernel, by decide +kernel⟩
def Ok_law_node (P : Program) (w : World) (K : PySem.W.Frag) (mg : Str → Option Value) (base : Heap) : Prop := ∃ fA fd, Fn P w K mg base (L2.CX P w) 3 "_law_node" s_law_node fA fd ["_law_source"] (sp_law_node K mg)
theorem okx_law_node (Z : Zs K mg) {fA : Addr} {fd : FuncData} (F : Fun K "_law_node" "_law_node" s_law_node fA fd) (m : mg "_law_node" = some (.ref fA)) (C_law_one : Ok_law_one P w K mg base) (C_law_take : Ok_law_take P w K mg base) : Fn P w K mg base (L2.CX P w) 3 "_law_node" s_law_node fA fd ["_law_source"] (sp_law_node K mg) := by
  obtain ⟨_, _, C_law_one⟩ := C_law_one
  obtain ⟨_, _, C_law_take⟩ := C_law_take
  refine ⟨F.okX sc_law_node (fun vs H Q E h => h.1) (fun cdv A outer s H vs Q E hr h => ?_), m, F.kp, F.binds fun _ _ _ _ _ _ us hl => match us, hl with | [_], _ => rfl, F⟩
  have hu64 := hr.units
  obtain ⟨hlen, h⟩ := h
  refine ⟨_, (pss_cons (ps_set (i := 1) sc_law_node.nd rfl (Or.inl rfl) (pe_op op_add pe_int (pe_call C_law_one.G (hr.mono (by decide)) rfl C_law_one.m C_law_one.kp C_law_one.b .nil passL (pa_cons (pv 0) (pa_cons (pe_lst (pa_cons pe_int (pa_cons pe_int (pa_cons (pe_call C_law_take.G (hr.mono (by decide)) rfl C_law_take.m C_law_take.kp C_law_take.b .nil passL (pa_cons (pv 0) (pa_cons pe_int pa_nil))) (pa_cons (pe_call C_law_take.G (hr.mono (by decide)) rfl C_law_take.m C_law_take.kp C_law_take.b .nil passL (pa_cons (pv 0) (pa_cons pe_int pa_nil))) pa_nil))))) pa_nil)))))
    (pss_cons (ps_if (pt_cmpR op_eq (pv 1) pe_int (nomark _))
      (pss_one (ps_ret (pe_tup (pa_cons pe_int (pa_cons pe_int (pa_cons pe_int pa_nil))))))
      pss_nil)
    (pss_cons (ps_set (i := 2) sc_law_node.nd rfl (Or.inl rfl) (pe_op op_add pe_int (pe_call C_law_one.G (hr.mono (by decide)) rfl C_law_one.m C_law_one.kp C_law_one.b .nil passL (pa_cons (pv 0) (pa_cons (pe_lst (pa_cons pe_int (pa_cons pe_int (pa_cons (pe_call C_law_take.G (hr.mono (by decide)) rfl C_law_take.m C_law_take.kp C_law_take.b .nil passL (pa_cons (pv 0) (pa_cons pe_int pa_nil))) (pa_cons (pe_call C_law_take.G (hr.mono (by decide)) rfl C_law_take.m C_law_take.kp C_law_take.b .nil passL (pa_cons (pv 0) (pa_cons pe_int pa_nil))) (pa_cons pe_int pa_nil)))))) pa_nil)))))
    (pss_cons (ps_set (i := 3) sc_law_node.nd rfl (Or.inl rfl) (pe_op op_sub (pe_op op_shl pe_int (pv 1)) (pv 2)))
    (pss_one (ps_ret (pe_tup (pa_cons (pe_call C_law_one.G (hr.mono (by decide)) rfl C_law_one.m C_law_one.kp C_law_one.b .nil passL (pa_cons (pv 0) (pa_cons (pe_lst (pa_cons pe_int (pa_cons (pv 3) (pa_cons (pe_call C_law_take.G (hr.mono (by decide)) rfl C_law_take.m C_law_take.kp C_law_take.b .nil passL (pa_cons (pv 0) (pa_cons (pe_op op_add (pv 3) pe_int) pa_nil))) pa_nil)))) pa_nil))) (pa_cons (pv 2) (pa_cons (pv 1) pa_nil)))))))))), ?_⟩
  obtain ⟨F, p, rfl, s0, q⟩ := h
  have t0 : Stp (S1 p) F H F H := .rfl' s0.1
  have H0 := H
  walk_at "r"
  refine ⟨rfl, F, p, _, rfl, s0, by decide, by decide, fun a1 H1 s1 t1 a10 a11 => ?_⟩
  replace t1 := t0.trans t1
  walk_at "r"
  refine ⟨rfl, F, p, _, rfl, s1, by decide, by decide, fun a2 H2 s2 t2 a20 a21 => ?_⟩
  replace t2 := t1.trans t2
  walk_at "r"
  refine ⟨sz (by simp), fun l1 hl1 => ?_⟩
  generalize eX : upd H2 l1 _ = H3
  obtain ⟨s3, t3, e3, fl1, nl1, -, -⟩ := scr s2 t2 hl1 eX
  clear eX
  walk_at "r"
  refine ⟨rfl, F, p, l1, [0, 1, a1, a2], rfl, s3, SqL.of fl1, nl1, by simp, by simp, fun sc H4 s4 t4 msc => ?_⟩
  replace t4 := t3.trans t4
  walk_at "r"
  have hsc : 0 ≤ sc ∧ sc ≤ 44 := by
    simp only [List.mem_cons, List.not_mem_nil, or_false] at msc
    omega
  obtain ⟨sn, hsn⟩ : ∃ sn : Nat, 16 + sc = (sn : Int) := ⟨(16 + sc).toNat, by omega⟩
  rw [hsn]
  refine ifd (fun z => ?_) (fun z => ?_)
  · walk_at "r"
    refine ⟨sz (by simp), fun y hy => ?_⟩
    generalize eX : upd H4 y _ = H9
    obtain ⟨F9, s9, t9, ff9, e9, f9, -⟩ := frz s4 t4 hy eX
    exact q y 0 65536 16 F9 H9 s9 t9 f9 ⟨by decide, by decide, by decide, by decide, by decide⟩
  walk_at "r"
  refine ⟨rfl, F, p, _, rfl, s4, by decide, by decide, fun b1 H5 s5 t5 b10 b11 => ?_⟩
  replace t5 := t4.trans t5
  walk_at "r"
  refine ⟨rfl, F, p, _, rfl, s5, by decide, by decide, fun b2 H6 s6 t6 b20 b21 => ?_⟩
  replace t6 := t5.trans t6
  walk_at "r"
  refine ⟨sz (by simp), fun l2 hl2 => ?_⟩
  generalize eX : upd H6 l2 _ = H7
  obtain ⟨s7, t7, e7, fl2, nl2, -, -⟩ := scr s6 t6 hl2 eX
  clear eX
  walk_at "r"
  refine ⟨rfl, F, p, l2, [0, 65535, b1, b2, 32768], rfl, s7, SqL.of fl2, nl2, by simp, by simp, fun wd H8 s8 t8 mwd => ?_⟩
  replace t8 := t7.trans t8
  walk_at "r"
  have hwd : 0 ≤ wd ∧ wd ≤ 65535 := by
    simp only [List.mem_cons, List.not_mem_nil, or_false] at mwd
    omega
  have hp17 : (131072 : Int) ≤ 1 * 2 ^ ((sn : Nat) : Int).toNat ∧ (1 : Int) * 2 ^ ((sn : Nat) : Int).toNat ≤ 2 ^ 60 := by
    rw [Int.toNat_natCast, Int.one_mul]
    refine ⟨?_, ?_⟩
    · exact Int.le_trans (by decide : (131072 : Int) ≤ 2 ^ 17) (by exact_mod_cast Nat.pow_le_pow_right (by decide) (by omega))
    · exact_mod_cast Nat.pow_le_pow_right (n := 2) (by decide) (by omega)
  obtain ⟨rm, hrm⟩ : ∃ rm, (1 : Int) * 2 ^ ((sn : Nat) : Int).toNat - (65536 + wd) = rm := ⟨_, rfl⟩
  rw [hrm]
  have hrm2 : 0 < rm ∧ rm < 2 ^ 60 := by omega
  refine ⟨rfl, F, p, _, rfl, s8, by omega, by omega, fun c1 H9 s9 t9 c10 c11 => ?_⟩
  replace t9 := t8.trans t9
  walk_at "r"
  refine ⟨sz (by simp), fun l3 hl3 => ?_⟩
  generalize eX : upd H9 l3 _ = H10
  obtain ⟨s10, t10, e10, fl3, nl3, -, -⟩ := scr s9 t9 hl3 eX
  clear eX
  walk_at "r"
  refine ⟨rfl, F, p, l3, [0, rm, c1], rfl, s10, SqL.of fl3, nl3, by simp, by simp, fun lv H11 s11 t11 mlv => ?_⟩
  replace t11 := t10.trans t11
  have hlv : 0 ≤ lv ∧ lv ≤ rm := by
    simp only [List.mem_cons, List.not_mem_nil, or_false] at mlv
    omega
  walk_at "r"
  refine ⟨sz (by simp), fun y hy => ?_⟩
  generalize eX : upd H11 y _ = H12
  obtain ⟨F12, s12, t12, ff12, e12, f12, -⟩ := frz s11 t11 hy eX
  exact q y lv (65536 + wd) sn F12 H12 s12 t12 f12 ⟨by omega, by omega, by omega, by omega, by omega⟩
abbrev s_law_is_outside : Stmt := topS 20
theorem sc_law_is_outside : FnScope ["_law_node_here", "_law_counts_here", "_law_letter", "_law_told", "e"] ["_law_node_here", "_law_counts_here", "_law_letter"] (defScope s_law_is_outside) := ⟨rfl, rfl, rfl, by decide +kernel, rfl, by decide +kernel, by decide +kernel⟩
def Ok_law_is_outside (P : Program) (w : World) (K : PySem.W.Frag) (mg : Str → Option Value) (base : Heap) : Prop := ∃ fA fd, Fn P w K mg base (L2.CX P w) 2 "_law_is_outside" s_law_is_outside fA fd ["_law_node_here", "_law_counts_here", "_law_letter"] (sp_law_is_outside K mg)
theorem okx_law_is_outside (Z : Zs K mg) {fA : Addr} {fd : FuncData} (F : Fun K "_law_is_outside" "_law_is_outside" s_law_is_outside fA fd) (m : mg "_law_is_outside" = some (.ref fA)) (C_next_node : Ok_next_node P w K mg base) : Fn P w K mg base (L2.CX P w) 2 "_law_is_outside" s_law_is_outside fA fd ["_law_node_here", "_law_counts_here", "_law_letter"] (sp_law_is_outside K mg) := by
  obtain ⟨_, _, C_next_node⟩ := C_next_node
  refine ⟨F.okX sc_law_is_outside (fun vs H Q E h => h.1) (fun cdv A outer s H vs Q E hr h => ?_), m, F.kp, F.binds fun _ _ _ _ _ _ us hl => match us, hl with | [_, _, _], _ => rfl, F⟩
  have hu64 := hr.units
  obtain ⟨hlen, h⟩ := h
  refine ⟨_, (pss_cons (ps_set (i := 3) sc_law_is_outside.nd rfl (Or.inl rfl) pe_bl)
    (pss_cons (ps_try_as (i := 4) rfl rfl sc_law_is_outside.nd rfl rfl ⟨rfl, by decide, .inl Z.x_Outside.g⟩ takes0 (fun W pn xe tk px => (pss_one (ps_expr (pe_callS C_next_node.G (hr.mono (by decide)) rfl C_next_node.m C_next_node.kp C_next_node.b (fun σ => passAt tk σ) (pa_cons (pv 0) (pa_cons (pv 1) (pa_cons (pv 2) pa_nil))))))) (fun a oe cls d pn hz hf => (pss_one (ps_set (i := 3) sc_law_is_outside.nd rfl (Or.inl rfl) (pe_callB (call_isX K rfl hz hf) (by rfl) Z.z_isinstance (by decide +kernel) (pa_cons (pv 4) (pa_cons (pe_glob (v := .ref (exA mg "NarrowError")) rfl Z.x_NarrowError.g rfl) pa_nil)))))))
    (pss_one (ps_ret (pv 3))))), ?_⟩
  obtain ⟨a, b, l, w, sc, cs, j, rfl, hN, hB, hj, q⟩ := h
  walk_at "r"
  refine ⟨rfl, a, b, l, w, sc, cs, j, rfl, hN, hB, .inr ⟨hj, true, Z.x_Outside.exm Z.s_Outside_Outside, fun _ b hb => ?_, fun q => nomatch q⟩⟩
  walk_at "r"
  refine s_isX Z.x_Outside.c Z.k_Outside_NarrowError ?_
  walk_at "r"
  exact q _ (Same.refl _)
abbrev s_law_is_right : Stmt := topS 21
theorem sc_law_is_right : FnScope ["_law_node_here", "_law_counts_here", "_law_left", "_law_width", "_law_scale", "_law_borders_here", "_law_kept", "_law_at", "_law_letter", "_law_told", "_law_more", "_law_low", "_law_high"] ["_law_node_here", "_law_counts_here"] (defScope s_law_is_right) := ⟨rfl, rfl, rfl, by decide +kernel, rfl, by decide +kernel, by decide +kernel⟩
def Ok_law_is_right (P : Program) (w : World) (K : PySem.W.Frag) (mg : Str → Option Value) (base : Heap) : Prop := ∃ fA fd, Fn P w K mg base (L2.CX P w) 3 "_law_is_right" s_law_is_right fA fd ["_law_node_here", "_law_counts_here"] (sp_law_is_right K mg)
theorem okx_law_is_right (Z : Zs K mg) {fA : Addr} {fd : FuncData} (F : Fun K "_law_is_right" "_law_is_right" s_law_is_right fA fd) (m : mg "_law_is_right" = some (.ref fA)) (C_law_child : Ok_law_child P w K mg base) (C_next_node : Ok_next_node P w K mg base) (C_law_borders : Ok_law_borders P w K mg base) : Fn P w K mg base (L2.CX P w) 3 "_law_is_right" s_law_is_right fA fd ["_law_node_here", "_law_counts_here"] (sp_law_is_right K mg) := by
  obtain ⟨_, _, C_law_child⟩ := C_law_child
  obtain ⟨_, _, C_next_node⟩ := C_next_node
  obtain ⟨_, _, C_law_borders⟩ := C_law_borders
  refine ⟨F.okX sc_law_is_right (fun vs H Q E h => h.1) (fun cdv A outer s H vs Q E hr h => ?_), m, F.kp, F.binds fun _ _ _ _ _ _ us hl => match us, hl with | [_, _], _ => rfl, F⟩
  have hu64 := hr.units
  obtain ⟨hlen, h⟩ := h
  refine ⟨_, (pss_cons (ps_asg (pv 0) (pg_tup rfl (pgs_cons (pg_name (i := 2) sc_law_is_right.nd rfl (Or.inl rfl)) (pgs_cons (pg_name (i := 3) sc_law_is_right.nd rfl (Or.inl rfl)) (pgs_cons (pg_name (i := 4) sc_law_is_right.nd rfl (Or.inl rfl)) pgs_nil)))))
    (pss_cons (ps_par3 (i := 5) (j := 6) (l := 7) (by rfl) sc_law_is_right.nd rfl rfl rfl (by decide) (by decide) (by decide) rfl rfl rfl (pa_cons (pe_call C_law_borders.G (hr.mono (by decide)) rfl C_law_borders.m C_law_borders.kp C_law_borders.b .nil passL (pa_cons (pv 3) (pa_cons (pv 1) pa_nil))) (pa_cons (pe_callTy call_list_of (by rfl) Z.z_list (by decide +kernel) (pa_cons (pv 1) pa_nil)) (pa_cons pe_int pa_nil))) (by rfl))
    (pss_cons (ps_for (passes_of rfl) rfl (pi_range1 rfl Z.z_range (pa_cons (pe_callB (c_len K rfl) (by rfl) Z.z_len (by decide +kernel) (pa_cons (pv 1) pa_nil)) pa_nil)) (pg_name (i := 8) sc_law_is_right.nd rfl (Or.inl rfl))
      (pss_cons (ps_set (i := 9) sc_law_is_right.nd rfl (Or.inl rfl) (pe_call C_next_node.G (hr.mono (by decide)) rfl C_next_node.m C_next_node.kp C_next_node.b .nil passL (pa_cons (pv 0) (pa_cons (pv 1) (pa_cons (pv 8) pa_nil)))))
    (pss_cons (ps_if (PW.pt (pw_or (pt_not (pt_val (pe_callB (c_isi K rfl) (by rfl) Z.z_isinstance (by decide +kernel) (pa_cons (pv 9) (pa_cons (pe_bltn (v := .ty "tuple") (by rfl) Z.z_tuple (by decide +kernel) rfl) pa_nil))))) (pw_or (pt_cmpR op_ne (pe_callB (c_len K rfl) (by rfl) Z.z_len (by decide +kernel) (pa_cons (pv 9) pa_nil)) pe_int (nomark _)) (pw_or1 (pt_cmpR (o_neD K rfl hu64) (pv 9) (pe_callK0 C_next_node.G (hr.mono (by decide)) rfl C_next_node.m C_next_node.kp (C_next_node.F.kbinds 0 ["node", "counts", "j"] (by decide) (fun _ _ _ _ _ _ us ws hu hw => match us, ws, hu, hw with | [], [_, _, _], _, _ => rfl)) passL (pk_cons (pv 0) (pk_cons (pe_callTy call_tuple_of (by rfl) Z.z_tuple (by decide +kernel) (pa_cons (pv 6) pa_nil)) (pk_cons (pv 8) pk_nil)))) (nomark _))))))
      (pss_one (ps_ret pe_bl))
      pss_nil)
    (pss_cons (ps_set (i := 10) sc_law_is_right.nd rfl (Or.inl rfl) (pe_op op_sub (pe_ix (i_tup K rfl) (pv 9) pe_int (fun _ _ => rfl)) (pv 4)))
    (pss_cons (ps_par (i := 11) (j := 12) (by rfl) sc_law_is_right.nd rfl rfl (by decide) rfl rfl (pa_cons (pe_ix (i_list K rfl) (pv 5) (pv 8) (fun _ _ => rfl)) (pa_cons (pe_ix (i_list K rfl) (pv 5) (pe_op op_add (pv 8) pe_int) (fun _ _ => rfl)) pa_nil)) (by rfl))
    (pss_cons (ps_if (PW.pt (pw_or (pt_cmpR op_lt (pv 10) pe_int (nomark _)) (pw_or (pt_cmpR op_gt (pv 10) pe_int (nomark _)) (pw_or (pt_cmpR op_ne (pe_ix (i_tup K rfl) (pv 9) pe_int (fun _ _ => rfl)) (pe_op op_shl (pe_op op_add (pv 2) (pv 11)) (pv 10)) (nomark _)) (pw_or1 (pt_cmpR op_ne (pe_ix (i_tup K rfl) (pv 9) pe_int (fun _ _ => rfl)) (pe_op op_shl (pe_op op_sub (pv 12) (pv 11)) (pv 10)) (nomark _)))))))
      (pss_one (ps_ret pe_bl))
      pss_nil)
    (pss_cons (ps_if (PW.pt (pw_or (pt_not (pt_chain op_le op_lt pe_int (pe_ix (i_tup K rfl) (pv 9) pe_int (fun _ _ => rfl)) pe_int)) (pw_or1 (PW.pt (pw_and (pt_cmpR op_gt (pv 10) pe_int (nomark _)) (pw_and1 (pt_cmpR op_ge (pe_op op_shl (pe_op op_sub (pv 12) (pv 11)) (pe_op op_sub (pv 10) pe_int)) pe_int (nomark _))))))))
      (pss_one (ps_ret pe_bl))
      pss_nil)
    (pss_cons (ps_if (PW.pt (pw_or (pt_cmpR op_ne (pe_ix (i_tup K rfl) (pv 9) pe_int (fun _ _ => rfl)) (pe_op op_shl (pe_op op_add (pv 2) (pv 7)) (pv 10)) (nomark _)) (pw_or1 (pt_cmpR (o_neD K rfl hu64) (pv 9) (pe_call C_law_child.G (hr.mono (by decide)) rfl C_law_child.m C_law_child.kp C_law_child.b .nil passL (pa_cons (pv 0) (pa_cons (pv 6) (pa_cons (pv 8) pa_nil)))) (nomark _)))))
      (pss_one (ps_ret pe_bl))
      pss_nil)
    (pss_one (ps_set (i := 7) sc_law_is_right.nd rfl (Or.inl rfl) (pe_op op_sub (pe_op op_shr (pe_op op_add (pe_ix (i_tup K rfl) (pv 9) pe_int (fun _ _ => rfl)) (pe_ix (i_tup K rfl) (pv 9) pe_int (fun _ _ => rfl))) (pv 10)) (pv 2))))))))))))
    (pss_one (ps_ret (pe_and (pe_cmpR op_eq (pv 7) (pv 3) (nomark _)) (pe_one (pe_cmpR (o_eqD K rfl hu64) (pv 1) (pv 6) (nomark _))))))))), ?_⟩
  obtain ⟨a, b, l, w, sc, cs, rfl, hN, hB, hcs, hc3, ok, q⟩ := h
  obtain ⟨w0, w1, l0, l1, sc1⟩ := id ok
  have hn0 := hcs.n0
  walk_at "r"
  refine ⟨rfl, b, w, cs, rfl, hB, hcs, hc3, by omega, by omega, fun bp H1 e1 bp0 hbp => ?_⟩
  walk_at "r"
  refine ⟨b, _, rfl, .inl (e1.seq hB), fun kp hkp => ?_⟩
  have e2 := (Stp.new (S := S0) (o := .lst (cs.map V.int)) (Same.refl H1) hkp).same
  have fkp : upd H1 kp (.lst (cs.map V.int)) kp = some (.lst (cs.map V.int)) := upd_same
  generalize upd H1 kp _ = H2 at e2 fkp ⊢
  replace hbp := e2 _ _ hbp
  have e02 := e1.trans e2
  have hg : ∀ i, i ≤ cs.length → (((List.range (cs.length + 1)).map (bord w cs)).map V.int)[i]? = some (.int (bord w cs i)) := fun i hi => by
    rw [List.getElem?_map, List.getElem?_map, List.getElem?_range (by omega)]; rfl
  walk_at "r"
  refine s_len (e02.seq hB) ?_
  walk_at "r"
  rw [List.length_map]
  refine ⟨_, rfl, by omega, by omega, ?_⟩
  rw [Int.toNat_natCast]
  refine forR (fun i σ H' => ∃ v8 v9 v10 v11 v12, σ = [some (.ref a), some (.ref b), some (.int l), some (.int w), some (.int (sc : Int)), some (.ref bp), some (.ref kp), some (.int (bord w cs i)), v8, v9, v10, v11, v12] ∧ Same H2 H') ⟨_, _, _, _, _, by rw [bord_zero]; rfl, Same.refl _⟩ ?_ ?_
  · rintro i σ H3 hi ⟨v8, v9, v10, v11, v12, rfl, e3⟩
    have e03 := e02.trans e3
    have ei : (0 : Int) + (i : Int) = ((i : Nat) : Int) := by omega
    have hb1 := bord_le hcs (by omega : 0 ≤ w) i
    have hb2 := bord_le hcs (by omega : 0 ≤ w) (i + 1)
    have wide := part_wide hcs w0 hi
    rw [ei]
    walk_at "r"
    refine ⟨rfl, a, b, l, w, sc, cs, _, rfl, seqT' e03 hN, .inl (e03.seq hB), .inl ⟨by omega, by rw [Int.toNat_natCast]; exact hi, hcs, w0, w1, fun k p H4 hk e4 p0 hp => ?_⟩⟩
    rw [Int.toNat_natCast] at hk hp
    obtain ⟨Li, hLi⟩ : ∃ Li, l + bord w cs i = Li := ⟨_, rfl⟩
    obtain ⟨Wi, hWi⟩ : ∃ Wi, bord w cs (i + 1) - bord w cs i = Wi := ⟨_, rfl⟩
    rw [hWi] at hk wide
    rw [hLi, hWi] at hp
    have hk6 := isK_le hk wide
    have hklt := isK_lt hk (by omega)
    have hk1 := hk.1
    walk_at "r"
    refine s_isi (b := true) (.base (.tup hp)) (by decide +kernel) ?_
    walk_at "r"
    refine ifn (fun _ => ?_) (fun z => absurd rfl z)
    walk_at "r"
    refine ⟨kp, _, rfl, .inl ⟨SqL.of ((e3.trans e4) _ _ fkp), fun tp htp => ?_⟩⟩
    have e5 := (Stp.new (S := S0) (o := .tup (cs.map V.int)) (Same.refl H4) htp).same
    have ftp : upd H4 tp (.tup (cs.map V.int)) tp = some (.tup (cs.map V.int)) := upd_same
    generalize upd H4 tp _ = H5 at e5 ftp ⊢
    walk_at "r"
    have e05 := e03.trans (e4.trans e5)
    refine ⟨rfl, a, tp, l, w, sc, cs, ((i : Nat) : Int), rfl, seqT' e05 hN, .inr (SqT.of ftp), .inl ⟨by omega, by rw [Int.toNat_natCast]; exact hi, hcs, w0, w1, fun k2 p2 H6 hk2 e6 p20 hp2 => ?_⟩⟩
    rw [Int.toNat_natCast, hWi] at hk2
    rw [Int.toNat_natCast, hLi, hWi] at hp2
    obtain rfl := hk.uniq hk2
    have hp6 := (e5.trans e6) _ _ hp
    refine s_neTs (SqT.of hp6) (SqT.of hp2) rfl ?_
    walk_at "r"
    have emo : ((sc + k : Nat) : Int) - (sc : Int) = (k : Int) := by omega
    have ej : (i : Int) + 1 = ((i + 1 : Nat) : Int) := by omega
    have hbp6 := (e3.trans (e4.trans (e5.trans e6))) _ _ hbp
    rw [emo]
    refine s_ixL (SqL.of hbp6) (at_nat' (hg i (by omega))) ?_
    walk_at "r"
    rw [ej]
    refine s_ixL (SqL.of hbp6) (at_nat' (hg (i + 1) (by omega))) ?_
    walk_at "r"
    refine ifd (fun z => absurd z (by omega)) (fun _ => ?_)
    walk_at "r"
    refine ifd (fun z => absurd z (by omega)) (fun _ => ?_)
    walk_at "r"
    rw [Int.toNat_natCast, hLi]
    refine ifn (fun _ => ?_) (fun z => absurd rfl z)
    walk_at "r"
    rw [Int.toNat_natCast, hWi]
    refine ifn (fun _ => ?_) (fun z => absurd rfl z)
    walk_at "r"
    refine ifd (fun _ => ?_) (fun z => absurd hk1 z)
    walk_at "r"
    refine ifn (fun _ => ?_) (fun z => absurd hklt z)
    walk_at "r"
    refine andF ?_ (fun hk0 rest => ?_)
    rotate_left
    · obtain ⟨k', rfl⟩ : ∃ k', k = k' + 1 := ⟨k - 1, by omega⟩
      have hkk := hk.2 k' (by omega)
      have ek : (((k' + 1 : Nat) : Int) - 1).toNat = k' := by omega
      walk_at "r"
      rw [hWi, ek]
      refine ifd (fun z => absurd z (by omega)) (fun _ => rest)
    walk_at "r"
    rw [Int.toNat_natCast, hLi]
    refine ifn (fun _ => ?_) (fun z => absurd rfl z)
    walk_at "r"
    refine ⟨rfl, a, kp, l, w, sc, cs, i, rfl, seqT' (e05.trans e6) hN, SqL.of ((e3.trans (e4.trans (e5.trans e6))) _ _ fkp), hi, hc3, hcs, w0, w1, fun k3 p3 H7 hk3 e7 p30 hp3 => ?_⟩
    rw [hWi] at hk3
    rw [hLi, hWi] at hp3
    obtain rfl := hk.uniq hk3
    have hp7 := e7 _ _ hp6
    refine s_neTs (SqT.of hp7) (SqT.of hp3) rfl ?_
    walk_at "r"
    have eat : (Li * 2 ^ k + Wi * 2 ^ k) / 2 ^ ((k : Nat) : Int).toNat - l = bord w cs (i + 1) := by
      rw [Int.toNat_natCast, ← Int.add_mul, Int.mul_ediv_cancel _ (Int.ne_of_gt (Int.pow_pos (by decide)))]
      omega
    rw [eat]
    exact ⟨_, _, _, _, _, rfl, e3.trans (e4.trans (e5.trans (e6.trans e7)))⟩
  · rintro σ H3 ⟨v8, v9, v10, v11, v12, rfl, e3⟩
    rw [bord_all hcs]
    walk_at "r"
    refine ifd (fun _ => ?_) (fun z => absurd rfl z)
    walk_at "r"
    refine s_eqL ((e02.trans e3).seq hB) (SqL.of (e3 _ _ fkp)) ?_
    rw [decide_eq_true rfl]
    exact q _ (e02.trans e3)
abbrev s_law_learned : Stmt := topS 22
theorem sc_law_learned : FnScope ["_law_counts_here", "_law_letter", "_law_found", "_law_at", "_law_one_here"] ["_law_counts_here", "_law_letter"] (defScope s_law_learned) := ⟨rfl, rfl, rfl, by decide +kernel, rfl, by decide +kernel, by decide +kernel⟩
def Ok_law_learned (P : Program) (w : World) (K : PySem.W.Frag) (mg : Str → Option Value) (base : Heap) : Prop := ∃ fA fd, Fn P w K mg base (L2.CX P w) 1 "_law_learned" s_law_learned fA fd ["_law_counts_here", "_law_letter"] (sp_law_learned K mg)
theorem okx_law_learned (Z : Zs K mg) {fA : Addr} {fd : FuncData} (F : Fun K "_law_learned" "_law_learned" s_law_learned fA fd) (m : mg "_law_learned" = some (.ref fA))  : Fn P w K mg base (L2.CX P w) 1 "_law_learned" s_law_learned fA fd ["_law_counts_here", "_law_letter"] (sp_law_learned K mg) := by
  refine ⟨F.okX sc_law_learned (fun vs H Q E h => h.1) (fun cdv A outer s H vs Q E hr h => ?_), m, F.kp, F.binds fun _ _ _ _ _ _ us hl => match us, hl with | [_, _], _ => rfl, F⟩
  have hu64 := hr.units
  obtain ⟨hlen, h⟩ := h
  refine ⟨_, (pss_cons (ps_setLc (i := 2) (own := [("_law_at", 3), ("_law_one_here", 4)]) (g := gTup K 2 (gCons (gName 3) (gCons (gName 4) gNil))) (tt := tYes) (by rfl) sc_law_learned.nd rfl rfl (sw_true rfl rfl rfl (by decide +kernel)) (pi_enum (by rfl) Z.z_enumerate (pa_cons (pv 0) pa_nil)) (blkOk_by (own := [("_law_at", 3), ("_law_one_here", 4)]) (N := ["_law_counts_here", "_law_letter", "_law_found", "_law_at", "_law_one_here"]) (sc := defScope s_law_learned) (by decide +kernel)) (fun _ _ _ _ _ => (pg_tup rfl (pgs_cons (pg_name (i := 3) sc_law_learned.nd rfl (Or.inl rfl) (Or.inr rfl)) (pgs_cons (pg_name (i := 4) sc_law_learned.nd rfl (Or.inl rfl) (Or.inr rfl)) pgs_nil)))) (fun _ _ _ _ _ => pts_nil) (fun _ _ _ _ _ => (pe_op op_add (pv 4) (pe_op op_mul pe_int (pe_callTy c_int1 (by rfl) Z.z_int (by decide +kernel) (pa_cons (pe_cmpR op_eq (pv 3) (pv 1) (nomark _)) pa_nil))))))
    (pss_one (ps_ret (pe_ifExp (pt_cmpR op_gt (pe_callB (c_sum K rfl rfl) (by rfl) Z.z_sum (by decide +kernel) (pa_cons (pv 2) pa_nil)) pe_int (nomark _)) (pe_lc (own := [("_law_one_here", 4)]) (g := gName 4) (tt := tYes) (by rfl) sc_law_learned.nd (pi_list (pv 2)) (blkOk_by (own := [("_law_one_here", 4)]) (N := ["_law_counts_here", "_law_letter", "_law_found", "_law_at", "_law_one_here"]) (sc := defScope s_law_learned) (by decide +kernel)) (fun _ _ _ _ _ => (pg_name (i := 4) sc_law_learned.nd rfl (Or.inl rfl))) (fun _ _ _ _ _ => pts_nil) (fun _ _ _ _ _ => (pe_op op_fdiv (pe_op op_add (pv 4) pe_int) pe_int))) (pv 2))))), ?_⟩
  obtain ⟨a, cs, j, rfl, ha, hc3, hj, q⟩ := h
  walk_at "r"
  refine s_iE ?_
  walk_at "r"
  refine ⟨a, _, rfl, ha, ?_⟩
  refine lcW (walk_enum (xs := cs.map V.int)) S0 (Same.refl H) (fun _ z => z.elim) (fun F1 H1 st => st.same.seq ha) (fun i acc F1 H1 => acc = ((cs.set j (cs.getD j 0 + 2)).take i).map V.int) (fun _ _ _ _ _ _ _ _ _ r => r) rfl ?_ ?_
  · rintro i x acc d F1 H1 H2 hi ⟨T, x1, y1, rfl, hT, eX, hx1, hy1⟩ hd nS st f0 e hl rr
    obtain rfl := Option.some.inj hx1
    dsimp only at hy1
    have hi' : i < cs.length := by simpa using hi
    rw [List.getElem?_map, List.getElem?_eq_getElem hi'] at hy1
    obtain rfl := Option.some.inj hy1
    have e2 : Same H1 H2 := by rw [eX]; exact (Stp.new (S := S0) (Same.refl _) hT).same
    have hT2 : H2 T = some (.tup [.int (i : Int), .int cs[i]]) := by rw [eX]; exact upd_same
    clear eX
    walk_at "r"
    refine lc_end hd nS st f0 e hl (by omega) (.ofSame st.fh e2) ?_
    have hi2 : i < (cs.set j (cs.getD j 0 + 2)).length := by rw [List.length_set]; exact hi'
    rw [rr, List.take_succ_eq_append_getElem hi2, List.map_append]
    congr 1
    rw [List.getElem_set]
    by_cases h : j = i
    · subst h
      rw [if_pos rfl, List.getD_eq_getElem?_getD, List.getElem?_eq_getElem hj]
      simp
    · have : ¬ (i : Int) = (j : Int) := fun z => h (by omega)
      rw [if_neg h]
      simp [this]
  · intro d acc F1 F2 H1 st hd f0 ef st1 hl rr
    rw [List.take_of_length_le (by simp)] at rr
    obtain ⟨ds, hds⟩ : ∃ ds, cs.set j (cs.getD j 0 + 2) = ds := ⟨_, rfl⟩
    have hdl : ds.length = cs.length := by rw [← hds, List.length_set]
    have hlearn : learnL cs j = if ds.sum > 64 then ds.map (fun o => (o + 1) / 2) else ds := by unfold learnL; rw [hds]
    rw [hds] at rr
    have hd1 : H1 d = some (.lst (ds.map V.int)) := by rw [ef] at st1; rw [st1.fh _ _ upd_same, rr]
    walk_at "r"
    refine ⟨d, ds, rfl, SqL.of hd1, ?_⟩
    walk_at "r"
    refine ifd (fun h2 => ?_) (fun h2 => ?_)
    · walk_at "r"
      refine ⟨d, rfl, ⟨_, SqL.of hd1⟩, ?_⟩
      refine lcW (walk_list (xs := ds.map V.int)) S0 (Same.refl H1) (fun _ z => z.elim) (fun F2 H2 st => SqL.of (st.same _ _ hd1)) (fun i acc F H => acc = ((ds.take i).map (fun o => (o + 1) / 2)).map V.int) (fun _ _ _ _ _ _ _ _ _ r => r) rfl ?_ ?_
      · rintro i x acc3 d3 F3 H3' H3 hi ⟨rfl, hx⟩ hd3 nS st3 f03 e hl3 rr3
        have hi' : i < ds.length := by simpa using hi
        rw [List.getElem?_map, List.getElem?_eq_getElem hi'] at hx
        obtain rfl := Option.some.inj hx
        walk_at "r"
        refine lc_end hd3 nS st3 f03 e hl3 (by omega) (.rfl' st3.fh) ?_
        rw [rr3, List.take_succ_eq_append_getElem hi', List.map_append, List.map_append]; rfl
      · intro d3 acc3 F3 F4 H3 st3 hd3 f03 ef3 st4 hl3 rr3
        rw [List.length_map, List.take_length] at rr3
        have hd4 : H3 d3 = some (.lst acc3) := by rw [ef3] at st4; exact st4.fh _ _ upd_same
        refine q d3 H3 (st.same.trans st3.same) (st.same.free hd3) ?_
        rw [hd4, rr3, hlearn, if_pos h2]
    · walk_at "r"
      refine q d H1 st.same hd ?_
      rw [hd1, hlearn, if_neg h2]
abbrev s_law_is_refused : Stmt := topS 23
theorem sc_law_is_refused : FnScope ["_law_call", "_law_told", "e"] ["_law_call"] (defScope s_law_is_refused) := ⟨rfl, rfl, rfl, by decide +kernel, rfl, by decide +kernel, by decide +kernel⟩
theorem gv_law_is_refused {X : Cx} (Z : Zs X.K X.mg) {g : Addr} {cdg : Value} (q : Str) : LamX.GivesTo X ["_law_call", "_law_told", "e"] "_law_is_refused" (defScope s_law_is_refused) g cdg (defBody s_law_is_refused) "_law_call" q (tt_law_is_refused X.K X.mg) := by
  intro f c' s H Q tl act hc h
  refine ⟨_, (pss_cons (ps_set (i := 1) sc_law_is_refused.nd rfl (Or.inl rfl) pe_bl)
    (pss_cons (ps_try_as (i := 2) rfl rfl sc_law_is_refused.nd rfl rfl ⟨rfl, by decide, .inl Z.x_Outside.g⟩ takes0 (fun W pn xe tk px => pss_ex (C := fun (Ech : XK) => ∀ cls d σ H, Ech cls d H → σ.length = 3 → W cls d σ H) fun Ech hW => (pss_one (ps_expr (pe_weak (act (fun cls d σ H => σ.length = 3 → W cls d σ H) pn xe Ech _ _ (takes_len tk) hW))))) (fun a oe cls d pn hz hf => (pss_one (ps_set (i := 1) sc_law_is_refused.nd rfl (Or.inl rfl) (pe_callB (call_isX _ rfl hz hf) (by rfl) Z.z_isinstance (by decide +kernel) (pa_cons (pv 2) (pa_cons (pe_glob (v := .ref (exA X.mg "NarrowError")) rfl Z.x_NarrowError.g rfl) pa_nil)))))))
    (pss_one (ps_ret (pv 1))))), ?_⟩
  refine s_seq ?_
  walk_at "r"
  refine ⟨fun cls d H' => d = none ∧ cls = .ref (exA X.mg "Outside") ∧ Q (.bl true) H', ?_, ?_⟩
  · rintro cls d σ H2 ⟨rfl, rfl, k⟩ hl
    match σ, hl with
    | [x, y, z], _ =>
      refine ⟨true, Z.x_Outside.exm Z.s_Outside_Outside, fun _ b hb => ?_, fun q => nomatch q⟩
      walk_at "r"
      refine s_isX Z.x_Outside.c Z.k_Outside_NarrowError ?_
      walk_at "r"
      exact k
  · walk_at "r"
    refine ⟨_, ⟨rfl, hc, h⟩, fun v H1 k => k.elim⟩
abbrev s_law_table_right : Stmt := topS 24
theorem sc_law_table_right : FnScope ["_law_source", "_law_m", "_law_table", "_law_counts_here", "_law_liked", "_law_turn", "_law_letter", "_law_far", "_law_wrong"] ["_law_source"] (defScope s_law_table_right) := ⟨rfl, rfl, rfl, by decide +kernel, rfl, by decide +kernel, by decide +kernel⟩
def Ok_law_table_right (T : Tbs) (P : Program) (w : World) (K : PySem.W.Frag) (mg : Str → Option Value) (base : Heap) : Prop := ∃ fA fd, Fn P w K mg base (L2.CX P w) 5 "_law_table_right" s_law_table_right fA fd ["_law_source"] (sp_law_table_right T K mg)
theorem okx_law_table_right (Z : Zs K mg) {fA : Addr} {fd : FuncData} (F : Fun K "_law_table_right" "_law_table_right" s_law_table_right fA fd) (m : mg "_law_table_right" = some (.ref fA)) {T : Tbs} {c0 P0 : Addr} (TB : LamX.TabB base mg c0 P0) (hcode : fd.code = .ref c0) (hmT : (P0, qLam "_law_table_right") ∈ T) (hu : ∀ p ∈ T, p.1 = P0 → p.2 = qLam "_law_table_right") (C_Table_counts : Ok_Table_counts P w K mg base) (C_Table_learn : Ok_Table_learn P w K mg base) (C_Table___init__ : Ok_Table___init__ P w K mg base) (C_law_is_refused : OkG K mg "_law_is_refused" "_law_call" s_law_is_refused ["_law_call", "_law_told", "e"]) (C_law_one : Ok_law_one P w K mg base) (C_law_take : Ok_law_take P w K mg base) (C_Table_total : Ok_Table_total P w K mg base) (C_law_learned : Ok_law_learned P w K mg base) : Fn P w K mg base (L2.CX P w) 5 "_law_table_right" s_law_table_right fA fd ["_law_source"] (sp_law_table_right T K mg) := by
  obtain ⟨_, _, _, C_Table_counts, M_Table_counts⟩ := C_Table_counts
  obtain ⟨_, _, C_Table_learn, M_Table_learn⟩ := C_Table_learn
  obtain ⟨_, _, C_Table___init__, M_Table___init__⟩ := C_Table___init__
  obtain ⟨_, _, C_law_is_refused⟩ := C_law_is_refused
  obtain ⟨_, _, C_law_one⟩ := C_law_one
  obtain ⟨_, _, C_law_take⟩ := C_law_take
  obtain ⟨_, _, _, C_Table_total, M_Table_total⟩ := C_Table_total
  obtain ⟨_, _, C_law_learned⟩ := C_law_learned
  refine ⟨okXc F sc_law_table_right (fun vs H Q E h => h.1) (fun A outer s H vs Q E hr h => ?_), m, F.kp, F.binds fun _ _ _ _ _ _ us hl => match us, hl with | [_], _ => rfl, F⟩
  have hu64 := hr.units
  obtain ⟨hlen, h⟩ := h
  refine ⟨_, (pss_cons (ps_set (i := 1) sc_law_table_right.nd rfl (Or.inl rfl) (pe_op op_add pe_int (pe_call C_law_take.G (hr.mono (by decide)) rfl C_law_take.m C_law_take.kp C_law_take.b .nil passL (pa_cons (pv 0) (pa_cons pe_int pa_nil)))))
    (pss_cons (ps_asg (pe_tup (pa_cons (pe_make M_Table___init__ C_Table___init__.G (hr.mono (by decide)) rfl Z.o_Table.g C_Table___init__.b .nil passL (pa_cons (pv 1) pa_nil)) (pa_cons (pe_op op_rep (pe_lst (pa_cons pe_int pa_nil)) (pv 1)) (pa_cons (pe_call C_law_take.G (hr.mono (by decide)) rfl C_law_take.m C_law_take.kp C_law_take.b .nil passL (pa_cons (pv 0) (pa_cons (pv 1) pa_nil))) pa_nil)))) (pg_tup rfl (pgs_cons (pg_name (i := 2) sc_law_table_right.nd rfl (Or.inr rfl)) (pgs_cons (pg_name (i := 3) sc_law_table_right.nd rfl (Or.inl rfl)) (pgs_cons (pg_name (i := 4) sc_law_table_right.nd rfl (Or.inl rfl)) pgs_nil)))))
    (pss_cons (ps_for (passes_of rfl) rfl (pi_range1 rfl Z.z_range (pa_cons (pe_call C_law_take.G (hr.mono (by decide)) rfl C_law_take.m C_law_take.kp C_law_take.b .nil passL (pa_cons (pv 0) (pa_cons pe_int pa_nil))) pa_nil)) (pg_name (i := 5) sc_law_table_right.nd rfl (Or.inl rfl))
      (pss_cons (ps_set (i := 6) sc_law_table_right.nd rfl (Or.inl rfl) (pe_call C_law_one.G (hr.mono (by decide)) rfl C_law_one.m C_law_one.kp C_law_one.b .nil passL (pa_cons (pv 0) (pa_cons (pe_lst (pa_cons (pv 4) (pa_cons (pv 4) (pa_cons (pv 4) (pa_cons (pe_call C_law_take.G (hr.mono (by decide)) rfl C_law_take.m C_law_take.kp C_law_take.b .nil passL (pa_cons (pv 0) (pa_cons (pv 1) pa_nil))) pa_nil))))) pa_nil))))
    (pss_cons (ps_if (pt_cmpR op_notN (pe_meth (pv 2) Z.o_Table.cl M_Table_learn C_Table_learn.G (hr.mono (by decide)) C_Table_learn.b .nil passL (pa_cons (pv 6) pa_nil)) pe_non (nomark _))
      (pss_one (ps_ret pe_bl))
      pss_nil)
    (pss_cons (ps_set (i := 3) sc_law_table_right.nd rfl (Or.inl rfl) (pe_call C_law_learned.G (hr.mono (by decide)) rfl C_law_learned.m C_law_learned.kp C_law_learned.b .nil passL (pa_cons (pv 3) (pa_cons (pv 6) pa_nil))))
    (pss_one (ps_if (PW.pt (pw_or (pt_cmpR (o_neD K rfl hu64) (pe_prop (pv 2) Z.o_Table.cl M_Table_counts C_Table_counts.G (hr.mono (by decide)) C_Table_counts.b .nil passL rfl) (pv 3) (nomark _)) (pw_or1 (pt_cmpR op_ne (pe_prop (pv 2) Z.o_Table.cl M_Table_total C_Table_total.G (hr.mono (by decide)) C_Table_total.b .nil passL rfl) (pe_callB (c_sum K rfl rfl) (by rfl) Z.z_sum (by decide +kernel) (pa_cons (pv 3) pa_nil)) (nomark _)))))
      (pss_one (ps_ret pe_bl))
      pss_nil))))))
    (pss_cons (ps_asg (pe_tup (pa_cons (pe_call C_law_one.G (hr.mono (by decide)) rfl C_law_one.m C_law_one.kp C_law_one.b .nil passL (pa_cons (pv 0) (pa_cons (pe_lst (pa_cons (pe_un un_neg pe_int) (pa_cons (pv 1) (pa_cons (pe_op op_add (pv 1) pe_int) pa_nil)))) pa_nil))) (pa_cons (pe_call C_law_one.G (hr.mono (by decide)) rfl C_law_one.m C_law_one.kp C_law_one.b .nil passL (pa_cons (pv 0) (pa_cons (pe_lst (pa_cons pe_int (pa_cons pe_int (pa_cons pe_int (pa_cons (pe_un un_neg pe_int) pa_nil))))) pa_nil))) pa_nil))) (pg_tup rfl (pgs_cons (pg_name (i := 7) sc_law_table_right.nd rfl (Or.inr rfl)) (pgs_cons (pg_name (i := 8) sc_law_table_right.nd rfl (Or.inr rfl)) pgs_nil))))
    (pss_cons (ps_if (PW.pt (pw_or (pt_not (pt_val (pe_lam (k := 1) C_law_is_refused rfl rfl (Or.inl rfl) (gv_law_is_refused Z _) TB hcode hmT hu (hr.mono (by decide)) (LamX.lamS_by (by rfl)) rfl (fun _ _ _ _ _ => rfl) (fun A outer s H E f c' hr => (pe_meth (pv 2) Z.o_Table.cl M_Table_learn C_Table_learn.G (hr.mono (by decide)) C_Table_learn.b .nil (passes_call (takes_of rfl rfl rfl rfl) (fun _ _ _ _ h => h)) (pa_cons (pv 7) pa_nil)))))) (pw_or1 (pt_cmpR (o_neD K rfl hu64) (pe_prop (pv 2) Z.o_Table.cl M_Table_counts C_Table_counts.G (hr.mono (by decide)) C_Table_counts.b .nil passL rfl) (pv 3) (nomark _)))))
      (pss_one (ps_ret pe_bl))
      pss_nil)
    (pss_cons (ps_if (pt_not (pt_val (pe_lam (k := 2) C_law_is_refused rfl rfl (Or.inl rfl) (gv_law_is_refused Z _) TB hcode hmT hu (hr.mono (by decide)) (LamX.lamS_by (by rfl)) rfl (fun _ _ _ _ _ => rfl) (fun A outer s H E f c' hr => (pe_makeK0 M_Table___init__ C_Table___init__.G (hr.mono (by decide)) rfl Z.o_Table.g (C_Table___init__.F.kbinds1 ["m"] (by decide) (fun _ _ _ _ _ _ us ws hu hw => match us, ws, hu, hw with | [_], [_], _, _ => rfl)) (passes_call (takes_of rfl rfl rfl rfl) (fun _ _ _ _ h => h)) (pk_cons (pv 8) pk_nil))))))
      (pss_one (ps_ret pe_bl))
      pss_nil)
    (pss_cons (ps_set (i := 2) sc_law_table_right.nd rfl (Or.inr rfl) (pe_make M_Table___init__ C_Table___init__.G (hr.mono (by decide)) rfl Z.o_Table.g C_Table___init__.b .nil passL (pa_cons pe_int pa_nil)))
    (pss_cons (ps_for (passes_of rfl) rfl (pi_range1 rfl Z.z_range (pa_cons pe_int pa_nil)) (pg_name (i := 5) sc_law_table_right.nd rfl (Or.inl rfl))
      (pss_one (ps_expr (pe_methK0 (pv 2) Z.o_Table.cl M_Table_learn C_Table_learn.G (hr.mono (by decide)) (C_Table_learn.F.kbinds 1 ["j"] (by decide) (fun _ _ _ _ _ _ us ws hu hw => match us, ws, hu, hw with | [_], [_], _, _ => rfl)) passL (pk_cons pe_int pk_nil)))))
    (pss_one (ps_ret (pe_cmpR (o_eqD K rfl hu64) (pe_prop (pv 2) Z.o_Table.cl M_Table_counts C_Table_counts.G (hr.mono (by decide)) C_Table_counts.b .nil passL rfl) (pe_lst (pa_cons pe_int (pa_cons pe_int pa_nil))) (nomark _)))))))))))), ?_⟩
  obtain ⟨F, p, rfl, hs, nT, hT, q⟩ := h
  walk_at "r"
  refine ⟨rfl, F, p, _, rfl, hs, by decide, by decide, fun r1 H1 s1 t1 r10 r11 => ?_⟩
  have T1 := hs.tabs hT t1
  obtain ⟨m, hm⟩ : ∃ m : Nat, 2 + r1 = (m : Int) := ⟨(2 + r1).toNat, by omega⟩
  have hm23 : m = 2 ∨ m = 3 := by omega
  walk_at "r"
  rw [hm]
  intro tb dx htb hdx ndx
  generalize eX : upd (upd H1 dx _) tb _ = H2
  have e2 : Same H1 H2 := by
    rw [← eX]
    exact fun b o e => by rw [upd_ne (ne_of_none e htb), upd_ne (ne_of_none e hdx)]; exact e
  have o2 : H2 tb = some (.ins (exA mg "Table") dx []) := by rw [← eX]; exact upd_same
  clear eX
  have ntb : tb ≠ p := (s1.ne htb).symm
  have Ftb : F tb = none := s1.1.free htb
  refine ⟨rfl, tb, dx, (m : Int), rfl, o2, .inl ⟨by omega, fun l l0 tt H3 H4 e3 htt hl0 hl00 hl e4 => ⟨rfl, ?_⟩⟩⟩
  have npl : tb ≠ l := ne_of_none (e3 _ _ o2) hl
  have e13 := e2.trans e3
  have nlp : l ≠ p := ((s1.of e13).ne hl).symm
  have Fl : F l = none := (s1.of e13).1.free hl
  have z4 : TabP mg T F H4 p tb dx l (List.replicate m 1) := by
    obtain ⟨a, b, x, y, e, w⟩ := s1
    have k : ∀ b, b ≠ tb → ∀ o, H1 b = some o → H4 b = some o := fun b nb o e => by
      have e' := e13 _ _ e
      rw [e4, upd_ne nb, upd_ne (fun z => by rw [z, hl] at e'; cases e')]; exact e'
    refine ⟨⟨fun b o e => k b (fun z => by rw [z, Ftb] at e; cases e) _ (a _ _ e), b, x, y, k p ntb.symm _ e, w⟩, ⟨?_, ?_⟩, ntb, nlp, Ftb, Fl, T1.ext fun b o e => k b (ne_of_none e htb) o e⟩
    · rw [e4, upd_same]
    · rw [e4, upd_ne npl.symm, upd_same, Int.toNat_natCast]
  clear e4 e13 e3 e2 o2 s1 t1 T1 hl hl0 hl00 htt
  walk_at "r"
  refine ⟨sz (by simp), fun w1 hw1 => ?_⟩
  generalize eX : upd H4 w1 _ = H5
  obtain ⟨z5, e5, f5, n5⟩ := z4.new hw1 eX
  clear eX
  walk_at "r"
  refine s_rep f5 (by omega) (by omega) fun cl hcl => ?_
  rw [Int.toNat_natCast]
  have ncl : cl ≠ l := (ne_of_none z5.o.2 hcl).symm
  generalize eX : upd H5 cl _ = H6
  obtain ⟨z6, e6, f6, n6⟩ := z5.new hcl eX
  clear eX
  rw [show List.replicate m (V.int 1) = (List.replicate m 1).map V.int by rw [List.map_replicate]] at f6
  walk_at "r"
  refine ⟨rfl, F, p, _, rfl, z6.s, by omega, by omega, fun lk H7 s7 t7 lk0 lk1 => ?_⟩
  have z7 := z6.draw s7 t7
  have f7 := t7.keep _ _ (fun e => n6 e) f6
  obtain ⟨ln, rfl⟩ : ∃ ln : Nat, lk = (ln : Int) := ⟨lk.toNat, by omega⟩
  walk_at "r"
  refine ⟨sz (by simp), fun tp htp => ?_⟩
  generalize eX : upd H7 tp _ = H8
  obtain ⟨z8, e8, f8, n8⟩ := z7.new htp eX
  clear eX
  replace f7 := e8 _ _ f7
  walk_at "r"
  refine ⟨rfl, F, p, _, rfl, z8.s, by decide, by decide, fun tr H9 s9 t9 tr0 tr1 => ?_⟩
  have z9 := z8.draw s9 t9
  have f9 := t9.keep _ _ (fun e => n6 e) f7
  walk_at "r"
  refine ⟨_, rfl, by omega, by omega, ?_⟩
  clear f8 e8 f5 e5 e6 z8 z7 z6 z5 z4
  refine forR (fun i σ H' => ∃ v5 v6 l cl cs, σ = [some (.ref p), some (.int (m : Int)), some (.ref tb), some (.ref cl), some (.int (ln : Int)), v5, v6, none, none] ∧ TabP mg T F H' p tb dx l cs ∧ H' cl = some (.lst (cs.map V.int)) ∧ cl ≠ p ∧ cl ≠ l ∧ cs.length = m)
    ⟨_, _, l, cl, _, rfl, z9, f9, n6, ncl, by simp⟩ ?_ ?_
  · rintro i σ H10 hi ⟨v5, v6, l, cl, cs, rfl, z10, f10, n10, nl10, hc10⟩
    walk_at "r"
    refine ⟨rfl, F, p, _, rfl, z10.s, by omega, by omega, fun a1 H11 s11 t11 a10 a11 => ?_⟩
    have z11 := z10.draw s11 t11
    have f11 := t11.keep _ _ (fun e => n10 e) f10
    walk_at "r"
    refine ⟨sz (by simp), fun w2 hw2 => ?_⟩
    generalize eX : upd H11 w2 _ = H12
    obtain ⟨z12, e12, f12, n12⟩ := z11.new hw2 eX
    clear eX
    have g12 := e12 _ _ f11
    walk_at "r"
    refine ⟨rfl, F, p, w2, [(ln : Int), (ln : Int), (ln : Int), a1], rfl, z12.s, SqL.of f12, n12, by simp, by simp, fun le H13 s13 t13 mle => ?_⟩
    have hle : 0 ≤ le ∧ le < m := by
      simp only [List.mem_cons, List.not_mem_nil, or_false] at mle
      omega
    have z13 := z12.draw s13 t13
    have f13 := t13.keep _ _ (fun e => n10 e) g12
    obtain ⟨jn, rfl⟩ : ∃ jn : Nat, le = (jn : Int) := ⟨le.toNat, by omega⟩
    walk_at "r"
    refine ⟨tb, dx, _, rfl, z13.o.1, rfl, ?_⟩
    walk_at "r"
    refine ⟨rfl, F, tb, dx, l, cs, _, rfl, z13.o, by omega, z13.s.1, z13.f1, z13.f2, .inl ⟨by omega, by rw [Int.toNat_natCast]; omega, fun l' H14 o14 s14 f14 nl14 k14 => ?_⟩⟩
    rw [Int.toNat_natCast] at o14
    have z14 := z13.learn o14 s14 f14 nl14 k14
    have ncb : cl ≠ tb := ne_of f13 z13.o.1 (by intro q; cases q)
    have f14 := k14 cl ncb nl10 _ f13
    refine ⟨rfl, false, rfl, ?_⟩
    walk_at "r"
    refine ⟨rfl, cl, cs, jn, rfl, SqL.of f14, by omega, by omega, fun c2 H15 e15 c20 f15 => ?_⟩
    have z15 := z14.of e15
    have nc2 : c2 ≠ p := (z14.s.ne c20).symm
    have nc2l : c2 ≠ l' := (ne_of_none z14.o.2 c20).symm
    walk_at "r"
    refine ⟨tb, dx, _, rfl, z15.o.1, rfl, tb, dx, l', _, rfl, z15.o, fun w3 hw3 => ?_⟩
    generalize eX : upd H15 w3 _ = H16
    obtain ⟨z16, e16, f16, n16⟩ := z15.new hw3 eX
    clear eX
    have g16 := e16 _ _ f15
    walk_at "r"
    refine s_neL (SqL.of f16) (SqL.of g16) ?_
    walk_at "r"
    refine ifn (fun _ => ?_) (fun z => absurd rfl z)
    walk_at "r"
    refine ⟨tb, dx, _, rfl, z16.o.1, rfl, tb, dx, l', _, rfl, z16.o, ?_⟩
    walk_at "r"
    refine ⟨c2, _, rfl, SqL.of g16, ?_⟩
    walk_at "r"
    refine ifn (fun _ => ?_) (fun z => absurd rfl z)
    walk_at "r"
    exact ⟨_, _, l', c2, _, rfl, z16, g16, nc2, nc2l, by rw [learnL_len]; exact hc10⟩
  · rintro σ H10 ⟨v5, v6, l, cl, cs, rfl, z10, f10, n10, nl10, hc10⟩
    walk_at "r"
    refine ⟨sz (by simp), fun w1 hw1 => ?_⟩
    generalize eX : upd H10 w1 _ = H11
    obtain ⟨z11, e11, f11, n11⟩ := z10.new hw1 eX
    clear eX
    have g11 := e11 _ _ f10
    walk_at "r"
    refine ⟨rfl, F, p, w1, [-1, (m : Int), (m : Int) + 5], rfl, z11.s, SqL.of f11, n11, by simp, by simp, fun fa H12 s12 t12 mfa => ?_⟩
    have z12 := z11.draw s12 t12
    have g12 := t12.keep _ _ (fun e => n10 e) g11
    have hfa : ¬ (0 ≤ fa ∧ fa < (cs.length : Int)) := by
      simp only [List.mem_cons, List.not_mem_nil, or_false] at mfa
      omega
    walk_at "r"
    refine ⟨sz (by simp), fun w2 hw2 => ?_⟩
    generalize eX : upd H12 w2 _ = H13
    obtain ⟨z13, e13, f13, n13⟩ := z12.new hw2 eX
    clear eX
    have g13 := e13 _ _ g12
    walk_at "r"
    refine ⟨rfl, F, p, w2, [0, 1, 4, -2], rfl, z13.s, SqL.of f13, n13, by simp, by simp, fun wr H14 s14 t14 mwr => ?_⟩
    have z14 := z13.draw s14 t14
    have g14 := t14.keep _ _ (fun e => n10 e) g13
    have hwr : ¬ (wr = 2 ∨ wr = 3) := by
      simp only [List.mem_cons, List.not_mem_nil, or_false] at mwr
      omega
    walk_at "r"
    refine ⟨sz (by simp), fun tp htp => ?_⟩
    generalize eX : upd H14 tp _ = H15
    obtain ⟨z15, e15, f15, n15⟩ := z14.new htp eX
    clear eX
    have g15 := e15 _ _ g14
    walk_at "r"
    refine s_lam z15.t fun H16 x16 T16 => ?_
    have z16 : TabP mg T F H16 p tb dx l cs := ⟨z15.s.ext nT x16, ⟨x16 _ _ z15.o.1 (fun ps z => by cases z), x16 _ _ z15.o.2 notbl_lst⟩, z15.n1, z15.n2, z15.f1, z15.f2, T16⟩
    have g16 := x16 _ _ g15 notbl_lst
    show tMeth _ _ _ _ _ _ _ _ _ _
    walk_at "r"
    refine ⟨tb, dx, _, rfl, z16.o.1, rfl, ?_⟩
    walk_at "r"
    refine ⟨rfl, F, tb, dx, l, cs, fa, rfl, z16.o, by omega, z16.s.1, z16.f1, z16.f2, .inr ⟨hfa, rfl, rfl, ?_⟩⟩
    refine ⟨true, rfl, ?_⟩
    walk_at "r"
    refine ⟨tb, dx, _, rfl, z16.o.1, rfl, tb, dx, l, _, rfl, z16.o, fun w3 hw3 => ?_⟩
    generalize eX : upd H16 w3 _ = H17
    obtain ⟨z17, e17, f17, n17⟩ := z16.new hw3 eX
    clear eX
    walk_at "r"
    refine s_neL (SqL.of f17) (SqL.of (e17 _ _ g16)) ?_
    walk_at "r"
    refine ifn (fun _ => ?_) (fun z => absurd rfl z)
    walk_at "r"
    refine s_lam z17.t fun H18 x18 T18 => ?_
    have s18 := z17.s.ext nT x18
    unfold tt_law_is_refused
    refine s_makeK ?_
    walk_at "r"
    refine ⟨rfl, rfl, fun xb xd hxb hxd nxd => ?_⟩
    refine ⟨rfl, xb, xd, wr, rfl, upd_same, .inr ⟨hwr, fun H19 e19 => ⟨rfl, rfl, ?_⟩⟩⟩
    have e189 : Same H18 H19 := fun b o e => e19 _ _ (by rw [upd_ne (ne_of_none e hxb), upd_ne (ne_of_none e hxd)]; exact e)
    have s19 := s18.of e189
    have T19 := T18.ext e189
    refine ⟨true, rfl, ?_⟩
    walk_at "r"
    intro tb2 dx2 htb2 hdx2 ndx2
    generalize eX : upd (upd H19 dx2 _) tb2 _ = H20
    have o20 : H20 tb2 = some (.ins (exA mg "Table") dx2 []) := by rw [← eX]; exact upd_same
    refine ⟨rfl, tb2, dx2, 2, rfl, o20, .inl ⟨.inl rfl, fun l2 l0 tt H21 H22 e21 htt hl0 hl00 hl2 e22 => ⟨rfl, ?_⟩⟩⟩
    have z22 : TabP mg T F H22 p tb2 dx2 l2 [1, 1] := TabP.make s19 T19 htb2 hdx2 eX e21 hl2 e22
    clear eX e22 e21
    walk_at "r"
    refine ⟨_, rfl, by decide, by decide, ?_⟩
    refine forR (fun i σ H' => ∃ v5 l, σ = [some (.ref p), some (.int (m : Int)), some (.ref tb2), some (.ref cl), some (.int (ln : Int)), v5, v6, some (.int fa), some (.int wr)] ∧ TabP mg T F H' p tb2 dx2 l (it33 i))
      ⟨_, _, rfl, z22⟩ ?_ ?_
    · rintro i σ H23 hi ⟨v5', l', rfl, z23⟩
      have hil := it33_len i
      walk_at "r"
      refine ⟨tb2, dx2, _, rfl, z23.o.1, rfl, ?_⟩
      walk_at "r"
      refine ⟨rfl, F, tb2, dx2, l', it33 i, 0, rfl, z23.o, by omega, z23.s.1, z23.f1, z23.f2, .inl ⟨by decide, by show 0 < _; omega, fun l3 H24 o24 s24 f24 nl24 k24 => ?_⟩⟩
      exact ⟨_, l3, rfl, z23.learn o24 s24 f24 nl24 k24⟩
    · rintro σ H23 ⟨v5', l', rfl, z23⟩
      have e33 : it33 (33 : Int).toNat = [35, 1] := it33_end
      rw [e33] at z23
      walk_at "r"
      refine ⟨tb2, dx2, _, rfl, z23.o.1, rfl, tb2, dx2, l', _, rfl, z23.o, fun w4 hw4 => ?_⟩
      generalize eX : upd H23 w4 _ = H24
      obtain ⟨z24, e24, f24, n24⟩ := z23.new hw4 eX
      clear eX
      walk_at "r"
      refine ⟨sz (by simp), fun w5 hw5 => ?_⟩
      generalize eX : upd H24 w5 _ = H25
      obtain ⟨z25, e25, f25, n25⟩ := z24.new hw5 eX
      clear eX
      refine s_eqL (ns := [35, 1]) (ms := [35, 1]) (SqL.of (e25 _ _ f24)) (SqL.of f25) ?_
      rw [decide_eq_true rfl]
      exact q _ z25.s.1 z25.t
abbrev s_law : Stmt := topS 25
theorem sc_law : FnScope ["_law_script", "_law_k", "_law_source", "_law_node_here", "_law_counts_here", "_law_letter"] ["_law_script"] (defScope s_law) := ⟨rfl, rfl, rfl, by decide +kernel, rfl, by decide +kernel, by decide +kernel⟩
def Ok_law (T : Tbs) (P : Program) (w : World) (K : PySem.W.Frag) (mg : Str → Option Value) (base : Heap) : Prop := ∃ fA fd, Fn P w K mg base (L2.CX P w) 6 "law" s_law fA fd ["_law_script"] (sp_law T K mg)
theorem okx_law (Z : Zs K mg) {fA : Addr} {fd : FuncData} (F : Fun K "law" "law" s_law fA fd) (m : mg "law" = some (.ref fA)) {T : Tbs} (C_next_node : Ok_next_node P w K mg base) (C_law_take : Ok_law_take P w K mg base) (C_law_is_outside : Ok_law_is_outside P w K mg base) (C_law_is_right : Ok_law_is_right P w K mg base) (C_law_counts : Ok_law_counts P w K mg base) (C_law_node : Ok_law_node P w K mg base) (C_law_pool : Ok_law_pool P w K mg base) (C_law_table_right : Ok_law_table_right T P w K mg base) : Fn P w K mg base (L2.CX P w) 6 "law" s_law fA fd ["_law_script"] (sp_law T K mg) := by
  obtain ⟨_, _, C_next_node⟩ := C_next_node
  obtain ⟨_, _, C_law_take⟩ := C_law_take
  obtain ⟨_, _, C_law_is_outside⟩ := C_law_is_outside
  obtain ⟨_, _, C_law_is_right⟩ := C_law_is_right
  obtain ⟨_, _, C_law_counts⟩ := C_law_counts
  obtain ⟨_, _, C_law_node⟩ := C_law_node
  obtain ⟨_, _, C_law_pool⟩ := C_law_pool
  obtain ⟨_, _, C_law_table_right⟩ := C_law_table_right
  refine ⟨F.okX sc_law (fun vs H Q E h => h.1) (fun cdv A outer s H vs Q E hr h => ?_), m, F.kp, F.binds fun _ _ _ _ _ _ us hl => match us, hl with | [_], _ => rfl, F⟩
  have hu64 := hr.units
  obtain ⟨hlen, h⟩ := h
  refine ⟨_, (pss_cons (ps_if (pt_not (pt_val (pe_call C_law_table_right.G (hr.mono (by decide)) rfl C_law_table_right.m C_law_table_right.kp C_law_table_right.b .nil passL (pa_cons (pe_call C_law_pool.G (hr.mono (by decide)) rfl C_law_pool.m C_law_pool.kp C_law_pool.b .nil passL (pa_cons (pv 0) (pa_cons pe_int pa_nil))) pa_nil))))
      (pss_one (ps_ret pe_bl))
      pss_nil)
    (pss_cons (ps_for (passes_of rfl) rfl (pi_range1 rfl Z.z_range (pa_cons (pe_callB (c_max2 rfl) (by rfl) Z.z_max (by decide +kernel) (pa_cons pe_int (pa_cons (pe_callB (c_min2 rfl) (by rfl) Z.z_min (by decide +kernel) (pa_cons (pe_callB (c_len K rfl) (by rfl) Z.z_len (by decide +kernel) (pa_cons (pv 0) pa_nil)) (pa_cons pe_int pa_nil))) pa_nil))) pa_nil)) (pg_name (i := 1) sc_law.nd rfl (Or.inl rfl))
      (pss_cons (ps_set (i := 2) sc_law.nd rfl (Or.inl rfl) (pe_call C_law_pool.G (hr.mono (by decide)) rfl C_law_pool.m C_law_pool.kp C_law_pool.b .nil passL (pa_cons (pv 0) (pa_cons (pv 1) pa_nil))))
    (pss_cons (ps_par (i := 3) (j := 4) (by rfl) sc_law.nd rfl rfl (by decide) rfl rfl (pa_cons (pe_call C_law_node.G (hr.mono (by decide)) rfl C_law_node.m C_law_node.kp C_law_node.b .nil passL (pa_cons (pv 2) pa_nil)) (pa_cons (pe_call C_law_counts.G (hr.mono (by decide)) rfl C_law_counts.m C_law_counts.kp C_law_counts.b .nil passL (pa_cons (pv 2) pa_nil)) pa_nil)) (by rfl))
    (pss_cons (ps_if (pt_not (pt_val (pe_call C_law_is_right.G (hr.mono (by decide)) rfl C_law_is_right.m C_law_is_right.kp C_law_is_right.b .nil passL (pa_cons (pv 3) (pa_cons (pv 4) pa_nil)))))
      (pss_one (ps_ret pe_bl))
      pss_nil)
    (pss_one (ps_for (passes_of rfl) rfl (pi_list (pe_lst (pa_cons (pe_op op_sub (pe_un un_neg pe_int) (pe_call C_law_take.G (hr.mono (by decide)) rfl C_law_take.m C_law_take.kp C_law_take.b .nil passL (pa_cons (pv 2) (pa_cons pe_int pa_nil)))) (pa_cons (pe_op op_add (pe_callB (c_len K rfl) (by rfl) Z.z_len (by decide +kernel) (pa_cons (pv 4) pa_nil)) (pe_call C_law_take.G (hr.mono (by decide)) rfl C_law_take.m C_law_take.kp C_law_take.b .nil passL (pa_cons (pv 2) (pa_cons pe_int pa_nil)))) pa_nil)))) (pg_name (i := 5) sc_law.nd rfl (Or.inl rfl))
      (pss_one (ps_if (pt_not (pt_val (pe_call C_law_is_outside.G (hr.mono (by decide)) rfl C_law_is_outside.m C_law_is_outside.kp C_law_is_outside.b .nil passL (pa_cons (pv 3) (pa_cons (pv 4) (pa_cons (pv 5) pa_nil))))))
      (pss_one (ps_ret pe_bl))
      pss_nil))))))))
    (pss_one (ps_ret (pe_and (pe_cmpR (o_eqD K rfl hu64) (pe_glob (v := .ref (exA mg "ROOT")) rfl Z.t_ROOT.1 rfl) (pe_tup (pa_cons pe_int (pa_cons pe_int (pa_cons pe_int pa_nil)))) (nomark _)) (pe_one (pe_cmpR (o_eqD K rfl hu64) (pe_call C_next_node.G (hr.mono (by decide)) rfl C_next_node.m C_next_node.kp C_next_node.b .nil passL (pa_cons (pe_glob (v := .ref (exA mg "ROOT")) rfl Z.t_ROOT.1 rfl) (pa_cons (pe_lst (pa_cons pe_int (pa_cons pe_int (pa_cons pe_int pa_nil)))) (pa_cons pe_int pa_nil)))) (pe_tup (pa_cons pe_int (pa_cons pe_int (pa_cons pe_int pa_nil)))) (nomark _)))))))), ?_⟩
  obtain ⟨sc, ns, rfl, hS, hl, hT, q⟩ := h
  walk_at "r"
  refine ⟨rfl, sc, ns, 0, rfl, hS, by decide, by decide, fun p0 H1 s1 => ?_⟩
  have hS0 : SqL K (cutT H) sc (ns.map V.int) := SqL.cut hS
  have T1 : LamX.Tabs T H1 := hT.ext s1.1
  walk_at "r"
  refine ⟨rfl, cutT H, p0, rfl, s1.cut, cutT_no _, T1, fun H2 e2 T2 => ?_⟩
  generalize cutT H = F0 at hS0 e2
  walk_at "r"
  refine s_len (e2.seq hS0) ?_
  walk_at "r"
  refine ⟨_, rfl, by split <;> split <;> omega, by split <;> split <;> omega, ?_⟩
  refine forR (fun i σ H' => ∃ v1 v2 v3 v4 v5, σ = [some (.ref sc), v1, v2, v3, v4, v5] ∧ Same F0 H') ⟨_, _, _, _, _, rfl, e2⟩ ?_ ?_
  · rintro i σ H3 hi ⟨v1, v2, v3, v4, v5, rfl, e3⟩
    walk_at "r"
    refine ⟨rfl, sc, ns, _, rfl, e3.seq hS0, by omega, ?_, fun p H4 s4 => ?_⟩
    · have : i < 21 := Nat.lt_of_lt_of_le hi (by split <;> split <;> omega)
      omega
    walk_at "r"
    refine ⟨rfl, H3, p, rfl, s4, fun nd l w sc' F5 H5 s5 t5 f5 ok => ?_⟩
    walk_at "r"
    refine ⟨rfl, F5, p, rfl, s5, fun cp cs F6 H6 s6 t6 f6 cok c3 => ?_⟩
    have g6 := t6.ff _ _ f5
    have e6 : Same H3 F6 := t5.ff.trans t6.ff
    have hs := cok.sum
    walk_at "r"
    refine ⟨rfl, nd, cp, l, w, sc', cs, rfl, SqT.of (s6.1 _ _ g6), SqL.of (s6.1 _ _ f6), cok, c3, ok, fun H7 e7 => ?_⟩
    have s7 := s6.of e7
    walk_at "r"
    refine ⟨rfl, F6, p, _, rfl, s7, by decide, by decide, fun a1 H8 s8 t8 a10 a11 => ?_⟩
    walk_at "r"
    refine s_len (SqL.of (s8.1 _ _ f6)) ?_
    walk_at "r"
    rw [List.length_map]
    refine ⟨rfl, F6, p, _, rfl, s8, by decide, by decide, fun a2 H9 s9 t9 a20 a21 => ?_⟩
    walk_at "r"
    refine ⟨sz (by simp), fun w1 hw1 => ?_⟩
    generalize eX : upd H9 w1 _ = H10
    obtain ⟨F10, s10, t10, ff10, e10, f10, -⟩ := frz s9 (.rfl' s9.1) hw1 eX
    clear eX
    walk_at "r"
    refine ⟨w1, rfl, ⟨_, SqL.of (s10.1 _ _ f10)⟩, ?_⟩
    refine forL (xs := [.int (-1 - a1), .int ((cs.length : Int) + a2)]) (fun i' σ H' => ∃ v5, σ = [some (.ref sc), some (.int (0 + (i : Int))), some (.ref p), some (.ref nd), some (.ref cp), v5] ∧ Same F10 H') ⟨_, rfl, s10.1⟩ (fun i' σ H' _ ⟨_, _, s⟩ => SqL.of (s _ _ f10)) ?_ ?_
    · rintro i' x σ H11 hx ⟨v5, rfl, e11⟩
      obtain ⟨j, rfl, hj⟩ : ∃ j : Int, x = .int j ∧ ¬ (0 ≤ j ∧ j < (cs.length : Int)) := by
        have := List.mem_of_getElem? hx
        simp only [List.mem_cons, List.not_mem_nil, or_false] at this
        rcases this with rfl | rfl
        · exact ⟨_, rfl, by omega⟩
        · exact ⟨_, rfl, by omega⟩
      walk_at "r"
      refine ⟨rfl, nd, cp, l, w, sc', cs, j, rfl, SqT.of (e11 _ _ (ff10 _ _ g6)), .inl (SqL.of (e11 _ _ (ff10 _ _ f6))), hj, fun H12 e12 => ?_⟩
      walk_at "r"
      exact ⟨_, rfl, e11.trans e12⟩
    · rintro σ H11 ⟨v5, rfl, e11⟩
      exact ⟨_, _, _, _, _, rfl, e3.trans (e6.trans (ff10.trans e11))⟩
  · rintro σ H3 ⟨v1, v2, v3, v4, v5, rfl, e3⟩
    walk_at "r"
    refine ⟨sz (by simp), fun w1 hw1 => ?_⟩
    generalize eX : upd H3 w1 _ = H4
    have f4 : H4 w1 = some (.tup [.int 0, .int 65536, .int 16]) := by rw [← eX]; exact upd_same
    clear eX
    refine s_eqTs (Z.t_ROOT.2 _) (SqT.of f4) rfl ?_
    walk_at "r"
    refine ⟨sz (by simp), fun w2 hw2 => ?_⟩
    generalize eX : upd H4 w2 _ = H5
    have f5 : H5 w2 = some (.lst ([(1 : Int), 1, 1].map V.int)) := by rw [← eX]; exact upd_same
    clear eX
    walk_at "r"
    refine ⟨rfl, _, w2, 0, 65536, 16, [1, 1, 1], 0, rfl, Z.t_ROOT.2 _, .inl (SqL.of f5), .inl ⟨by decide, by decide, ⟨by decide, by decide, by decide⟩, by decide, by decide, fun k p H6 hk e6 p0 hp => ?_⟩⟩
    have hk2 : IsK (bord 65536 [1, 1, 1] ((0 : Int).toNat + 1) - bord 65536 [1, 1, 1] (0 : Int).toNat) 2 := ⟨by decide +kernel, fun i hi => by
      rcases (show i = 0 ∨ i = 1 by omega) with rfl | rfl <;> decide +kernel⟩
    obtain rfl := hk.uniq hk2
    have h1 : (0 + bord 65536 [1, 1, 1] (0 : Int).toNat) * 2 ^ 2 = 0 := by decide +kernel
    have h2 : (bord 65536 [1, 1, 1] ((0 : Int).toNat + 1) - bord 65536 [1, 1, 1] (0 : Int).toNat) * 2 ^ 2 = 87380 := by decide +kernel
    rw [h1, h2] at hp
    walk_at "r"
    refine ⟨sz (by simp), fun w3 hw3 => ?_⟩
    have e7 := (Stp.new (S := S0) (o := .tup [.int 0, .int 87380, .int 18]) (Same.refl H6) hw3).same
    refine s_eqTs (vs := [.int 0, .int 87380, .int 18]) (SqT.of (e7 _ _ hp)) (SqT.of upd_same) rfl ?_
    exact q _
end
theorem all_mk {l : PySem.W.OpenLaw} {w : World} {K : PySem.W.Frag} {h : Heap} {mg : Str → Option Value} {fa : Addr} (X : K.In h) (G : h.Ns mainGlobals mg) (hfa : mg "law" = some (.ref fa))
    {f0 : Addr} {od0 an0 : Option Addr} {sl0 : Array (Option Value)} {oc0 kV0 dc0 pm0 cd0 ct0 : Value}
    (a0 : PySem.W.nsIn K mainGlobals "next_node" = some (some (.ref f0))) (l0 : K.lookup f0 = some ⟨oc0, od0, .func (PySem.W.fnOf "next_node" "next_node" (defArgs s_next_node) (defBody s_next_node) (defScope s_next_node) .none kV0 dc0 pm0 an0 cd0 ct0), sl0⟩) (c0 : PySem.W.codeIn K cd0 "next_node" = true) (k0 : PySem.W.keepIn K (.ref f0) = true)
    {f1 : Addr} {od1 an1 : Option Addr} {sl1 : Array (Option Value)} {oc1 kV1 dc1 pm1 cd1 ct1 : Value}
    (l1 : K.lookup f1 = some ⟨oc1, od1, .func (PySem.W.fnOf "__init__" "Table.__init__" (defArgs s_Table___init__) (defBody s_Table___init__) (defScope s_Table___init__) .none kV1 dc1 pm1 an1 cd1 ct1), sl1⟩) (c1 : PySem.W.codeIn K cd1 "Table.__init__" = true) (k1 : PySem.W.keepIn K (.ref f1) = true)
    {f2 : Addr} {od2 an2 : Option Addr} {sl2 : Array (Option Value)} {oc2 kV2 dc2 pm2 cd2 ct2 : Value}
    (l2 : K.lookup f2 = some ⟨oc2, od2, .func (PySem.W.fnOf "counts" "Table.counts" (defArgs s_Table_counts) (defBody s_Table_counts) (defScope s_Table_counts) .none kV2 dc2 pm2 an2 cd2 ct2), sl2⟩) (c2 : PySem.W.codeIn K cd2 "Table.counts" = true) (k2 : PySem.W.keepIn K (.ref f2) = true)
    {f3 : Addr} {od3 an3 : Option Addr} {sl3 : Array (Option Value)} {oc3 kV3 dc3 pm3 cd3 ct3 : Value}
    (l3 : K.lookup f3 = some ⟨oc3, od3, .func (PySem.W.fnOf "total" "Table.total" (defArgs s_Table_total) (defBody s_Table_total) (defScope s_Table_total) .none kV3 dc3 pm3 an3 cd3 ct3), sl3⟩) (c3 : PySem.W.codeIn K cd3 "Table.total" = true) (k3 : PySem.W.keepIn K (.ref f3) = true)
    {f4 : Addr} {od4 an4 : Option Addr} {sl4 : Array (Option Value)} {oc4 kV4 dc4 pm4 cd4 ct4 : Value}
    (l4 : K.lookup f4 = some ⟨oc4, od4, .func (PySem.W.fnOf "learn" "Table.learn" (defArgs s_Table_learn) (defBody s_Table_learn) (defScope s_Table_learn) .none kV4 dc4 pm4 an4 cd4 ct4), sl4⟩) (c4 : PySem.W.codeIn K cd4 "Table.learn" = true) (k4 : PySem.W.keepIn K (.ref f4) = true)
    {f5 : Addr} {od5 an5 : Option Addr} {sl5 : Array (Option Value)} {oc5 kV5 dc5 pm5 cd5 ct5 : Value}
    (a5 : PySem.W.nsIn K mainGlobals "_law_pool" = some (some (.ref f5))) (l5 : K.lookup f5 = some ⟨oc5, od5, .func (PySem.W.fnOf "_law_pool" "_law_pool" (defArgs s_law_pool) (defBody s_law_pool) (defScope s_law_pool) .none kV5 dc5 pm5 an5 cd5 ct5), sl5⟩) (c5 : PySem.W.codeIn K cd5 "_law_pool" = true) (k5 : PySem.W.keepIn K (.ref f5) = true)
    {f6 : Addr} {od6 an6 : Option Addr} {sl6 : Array (Option Value)} {oc6 kV6 dc6 pm6 cd6 ct6 : Value}
    (a6 : PySem.W.nsIn K mainGlobals "_law_take" = some (some (.ref f6))) (l6 : K.lookup f6 = some ⟨oc6, od6, .func (PySem.W.fnOf "_law_take" "_law_take" (defArgs s_law_take) (defBody s_law_take) (defScope s_law_take) .none kV6 dc6 pm6 an6 cd6 ct6), sl6⟩) (c6 : PySem.W.codeIn K cd6 "_law_take" = true) (k6 : PySem.W.keepIn K (.ref f6) = true)
    {f7 : Addr} {od7 an7 : Option Addr} {sl7 : Array (Option Value)} {oc7 kV7 dc7 pm7 cd7 ct7 : Value}
    (a7 : PySem.W.nsIn K mainGlobals "_law_one" = some (some (.ref f7))) (l7 : K.lookup f7 = some ⟨oc7, od7, .func (PySem.W.fnOf "_law_one" "_law_one" (defArgs s_law_one) (defBody s_law_one) (defScope s_law_one) .none kV7 dc7 pm7 an7 cd7 ct7), sl7⟩) (c7 : PySem.W.codeIn K cd7 "_law_one" = true) (k7 : PySem.W.keepIn K (.ref f7) = true)
    {f8 : Addr} {od8 an8 : Option Addr} {sl8 : Array (Option Value)} {oc8 kV8 dc8 pm8 cd8 ct8 : Value}
    (a8 : PySem.W.nsIn K mainGlobals "_law_counts" = some (some (.ref f8))) (l8 : K.lookup f8 = some ⟨oc8, od8, .func (PySem.W.fnOf "_law_counts" "_law_counts" (defArgs s_law_counts) (defBody s_law_counts) (defScope s_law_counts) .none kV8 dc8 pm8 an8 cd8 ct8), sl8⟩) (c8 : PySem.W.codeIn K cd8 "_law_counts" = true) (k8 : PySem.W.keepIn K (.ref f8) = true)
    {f9 : Addr} {od9 an9 : Option Addr} {sl9 : Array (Option Value)} {oc9 kV9 dc9 pm9 cd9 ct9 : Value}
    (a9 : PySem.W.nsIn K mainGlobals "_law_borders" = some (some (.ref f9))) (l9 : K.lookup f9 = some ⟨oc9, od9, .func (PySem.W.fnOf "_law_borders" "_law_borders" (defArgs s_law_borders) (defBody s_law_borders) (defScope s_law_borders) .none kV9 dc9 pm9 an9 cd9 ct9), sl9⟩) (c9 : PySem.W.codeIn K cd9 "_law_borders" = true) (k9 : PySem.W.keepIn K (.ref f9) = true)
    {f10 : Addr} {od10 an10 : Option Addr} {sl10 : Array (Option Value)} {oc10 kV10 dc10 pm10 cd10 ct10 : Value}
    (a10 : PySem.W.nsIn K mainGlobals "_law_child" = some (some (.ref f10))) (l10 : K.lookup f10 = some ⟨oc10, od10, .func (PySem.W.fnOf "_law_child" "_law_child" (defArgs s_law_child) (defBody s_law_child) (defScope s_law_child) .none kV10 dc10 pm10 an10 cd10 ct10), sl10⟩) (c10 : PySem.W.codeIn K cd10 "_law_child" = true) (k10 : PySem.W.keepIn K (.ref f10) = true)
    {f11 : Addr} {od11 an11 : Option Addr} {sl11 : Array (Option Value)} {oc11 kV11 dc11 pm11 cd11 ct11 : Value}
    (a11 : PySem.W.nsIn K mainGlobals "_law_node" = some (some (.ref f11))) (l11 : K.lookup f11 = some ⟨oc11, od11, .func (PySem.W.fnOf "_law_node" "_law_node" (defArgs s_law_node) (defBody s_law_node) (defScope s_law_node) .none kV11 dc11 pm11 an11 cd11 ct11), sl11⟩) (c11 : PySem.W.codeIn K cd11 "_law_node" = true) (k11 : PySem.W.keepIn K (.ref f11) = true)
    {f12 : Addr} {od12 an12 : Option Addr} {sl12 : Array (Option Value)} {oc12 kV12 dc12 pm12 cd12 ct12 : Value}
    (a12 : PySem.W.nsIn K mainGlobals "_law_is_outside" = some (some (.ref f12))) (l12 : K.lookup f12 = some ⟨oc12, od12, .func (PySem.W.fnOf "_law_is_outside" "_law_is_outside" (defArgs s_law_is_outside) (defBody s_law_is_outside) (defScope s_law_is_outside) .none kV12 dc12 pm12 an12 cd12 ct12), sl12⟩) (c12 : PySem.W.codeIn K cd12 "_law_is_outside" = true) (k12 : PySem.W.keepIn K (.ref f12) = true)
    {f13 : Addr} {od13 an13 : Option Addr} {sl13 : Array (Option Value)} {oc13 kV13 dc13 pm13 cd13 ct13 : Value}
    (a13 : PySem.W.nsIn K mainGlobals "_law_is_right" = some (some (.ref f13))) (l13 : K.lookup f13 = some ⟨oc13, od13, .func (PySem.W.fnOf "_law_is_right" "_law_is_right" (defArgs s_law_is_right) (defBody s_law_is_right) (defScope s_law_is_right) .none kV13 dc13 pm13 an13 cd13 ct13), sl13⟩) (c13 : PySem.W.codeIn K cd13 "_law_is_right" = true) (k13 : PySem.W.keepIn K (.ref f13) = true)
    {f14 : Addr} {od14 an14 : Option Addr} {sl14 : Array (Option Value)} {oc14 kV14 dc14 pm14 cd14 ct14 : Value}
    (a14 : PySem.W.nsIn K mainGlobals "_law_learned" = some (some (.ref f14))) (l14 : K.lookup f14 = some ⟨oc14, od14, .func (PySem.W.fnOf "_law_learned" "_law_learned" (defArgs s_law_learned) (defBody s_law_learned) (defScope s_law_learned) .none kV14 dc14 pm14 an14 cd14 ct14), sl14⟩) (c14 : PySem.W.codeIn K cd14 "_law_learned" = true) (k14 : PySem.W.keepIn K (.ref f14) = true)
    {f15 : Addr} {od15 an15 : Option Addr} {sl15 : Array (Option Value)} {oc15 kV15 dc15 pm15 cd15 ct15 : Value}
    (a15 : PySem.W.nsIn K mainGlobals "_law_is_refused" = some (some (.ref f15))) (l15 : K.lookup f15 = some ⟨oc15, od15, .func (PySem.W.fnOf "_law_is_refused" "_law_is_refused" (defArgs s_law_is_refused) (defBody s_law_is_refused) (defScope s_law_is_refused) .none kV15 dc15 pm15 an15 cd15 ct15), sl15⟩) (c15 : PySem.W.codeIn K cd15 "_law_is_refused" = true) (k15 : PySem.W.keepIn K (.ref f15) = true)
    {f16 : Addr} {od16 an16 : Option Addr} {sl16 : Array (Option Value)} {oc16 kV16 dc16 pm16 cd16 ct16 : Value}
    (a16 : PySem.W.nsIn K mainGlobals "_law_table_right" = some (some (.ref f16))) (l16 : K.lookup f16 = some ⟨oc16, od16, .func (PySem.W.fnOf "_law_table_right" "_law_table_right" (defArgs s_law_table_right) (defBody s_law_table_right) (defScope s_law_table_right) .none kV16 dc16 pm16 an16 cd16 ct16), sl16⟩) (c16 : PySem.W.codeIn K cd16 "_law_table_right" = true) (k16 : PySem.W.keepIn K (.ref f16) = true)
    {f17 : Addr} {od17 an17 : Option Addr} {sl17 : Array (Option Value)} {oc17 kV17 dc17 pm17 cd17 ct17 : Value}
    (a17 : PySem.W.nsIn K mainGlobals "law" = some (some (.ref f17))) (l17 : K.lookup f17 = some ⟨oc17, od17, .func (PySem.W.fnOf "law" "law" (defArgs s_law) (defBody s_law) (defScope s_law) .none kV17 dc17 pm17 an17 cd17 ct17), sl17⟩) (c17 : PySem.W.codeIn K cd17 "law" = true) (k17 : PySem.W.keepIn K (.ref f17) = true)
    {R_ROOT : Addr} {u0_ROOT u1_ROOT u2_ROOT : Tok} {rd_ROOT : Option Addr} {rn_ROOT : Nat} {rs_ROOT : Array (Option Value)} (tg_ROOT : PySem.W.nsIn K mainGlobals "ROOT" = some (some (.ref R_ROOT))) (tl_ROOT : K.lookup R_ROOT = some ⟨.type "tuple", rd_ROOT, .seq #[.int 0 u0_ROOT, .int 65536 u1_ROOT, .int 16 u2_ROOT] rn_ROOT, rs_ROOT⟩)
    {K_Table : Addr} (og_Table : PySem.W.nsIn K mainGlobals "Table" = some (some (.ref K_Table))) (o1_Table : PySem.W.plainGet K K_Table Str.empty = true) (o2_Table : PySem.W.hasDictIn K K_Table = true) (o3_Table : PySem.W.plainOver K K_Table = true) (o4_Table : PySem.W.findIn K (.ref K_Table) "__setattr__" = some (some (.builtin "object.__setattr__"))) (o5_Table : PySem.W.makesIn K K_Table = true) (o6_Table : PySem.W.keepIn K (.ref K_Table) = true)
    (on_Table__counts : PySem.W.findIn K (.ref K_Table) "_counts" = some none)
    (pa1 : PySem.W.findIn K (.ref K_Table) "__init__" = some (some (.ref f1))) (pb1 : PySem.W.isFn K (.ref f1) = true)
    {pp2 : Addr} {pr2 : List Value} (pa2 : PySem.W.findIn K (.ref K_Table) "counts" = some (some (.ref pp2))) (pb2 : PySem.W.specialIn K (.ref pp2) "__get__" = some (some (.builtin "property.__get__"))) (pc2 : PySem.W.takesIn K (.ref pp2) = some true) (pd2 : PySem.W.recIn K pp2 "property" = some (.ref f2 :: pr2))
    {pp3 : Addr} {pr3 : List Value} (pa3 : PySem.W.findIn K (.ref K_Table) "total" = some (some (.ref pp3))) (pb3 : PySem.W.specialIn K (.ref pp3) "__get__" = some (some (.builtin "property.__get__"))) (pc3 : PySem.W.takesIn K (.ref pp3) = some true) (pd3 : PySem.W.recIn K pp3 "property" = some (.ref f3 :: pr3))
    (pa4 : PySem.W.findIn K (.ref K_Table) "learn" = some (some (.ref f4))) (pb4 : PySem.W.isFn K (.ref f4) = true)
    (z_enumerate : PySem.W.nsIn K mainGlobals "enumerate" = some none)
    (z_int : PySem.W.nsIn K mainGlobals "int" = some none)
    (z_isinstance : PySem.W.nsIn K mainGlobals "isinstance" = some none)
    (z_len : PySem.W.nsIn K mainGlobals "len" = some none)
    (z_list : PySem.W.nsIn K mainGlobals "list" = some none)
    (z_max : PySem.W.nsIn K mainGlobals "max" = some none)
    (z_min : PySem.W.nsIn K mainGlobals "min" = some none)
    (z_range : PySem.W.nsIn K mainGlobals "range" = some none)
    (z_sum : PySem.W.nsIn K mainGlobals "sum" = some none)
    (z_tuple : PySem.W.nsIn K mainGlobals "tuple" = some none)
    {t_GAIN : Tok} (e_GAIN : PySem.W.nsIn K mainGlobals "GAIN" = some (some (.int (2) t_GAIN)))
    {t_LEAST_WIDTH : Tok} (e_LEAST_WIDTH : PySem.W.nsIn K mainGlobals "LEAST_WIDTH" = some (some (.int (65536) t_LEAST_WIDTH)))
    {t_MOST_TOTAL : Tok} (e_MOST_TOTAL : PySem.W.nsIn K mainGlobals "MOST_TOTAL" = some (some (.int (64) t_MOST_TOTAL)))
    {C_NarrowError : Addr} (g_NarrowError : PySem.W.nsIn K mainGlobals "NarrowError" = some (some (.ref C_NarrowError))) (x0_NarrowError : PySem.W.excIn K C_NarrowError [.type "ValueError", .type "Exception", .type "BaseException", .type "object"] "ValueError.__new__" = true)
    (x1_NarrowError : PySem.W.keepIn K (.ref C_NarrowError) = true) (x2_NarrowError : PySem.W.subIn K (.ref C_NarrowError) (.type "BaseException") = some true) (x3_NarrowError : PySem.W.typeIn K (.ref C_NarrowError) = some (.type "type"))
    (x4_NarrowError : PySem.W.findIn K (.ref C_NarrowError) "__getattribute__" = some (some (.builtin "BaseException.__getattribute__"))) (x5_NarrowError : PySem.W.findIn K (.ref C_NarrowError) "__getattr__" = some none) (x6_NarrowError : PySem.W.hasDictIn K C_NarrowError = true)
    (x7_NarrowError : PySem.W.findIn K (.ref C_NarrowError) "__class__" = some (some (.builtin "object.__class__"))) (x8_NarrowError : PySem.W.specialIn K (.builtin "object.__class__") "__get__" = some (some (.builtin "getset_descriptor.__get__"))) (x9_NarrowError : PySem.W.takesIn K (.builtin "object.__class__") = some true) (xa_NarrowError : PySem.W.mroIn K C_NarrowError (.type "object") = some true)
    {C_Outside : Addr} (g_Outside : PySem.W.nsIn K mainGlobals "Outside" = some (some (.ref C_Outside))) (x0_Outside : PySem.W.excIn K C_Outside [.type "ValueError", .type "Exception", .type "BaseException", .type "object"] "ValueError.__new__" = true)
    (x1_Outside : PySem.W.keepIn K (.ref C_Outside) = true) (x2_Outside : PySem.W.subIn K (.ref C_Outside) (.type "BaseException") = some true) (x3_Outside : PySem.W.typeIn K (.ref C_Outside) = some (.type "type"))
    (x4_Outside : PySem.W.findIn K (.ref C_Outside) "__getattribute__" = some (some (.builtin "BaseException.__getattribute__"))) (x5_Outside : PySem.W.findIn K (.ref C_Outside) "__getattr__" = some none) (x6_Outside : PySem.W.hasDictIn K C_Outside = true)
    (x7_Outside : PySem.W.findIn K (.ref C_Outside) "__class__" = some (some (.builtin "object.__class__"))) (x8_Outside : PySem.W.specialIn K (.builtin "object.__class__") "__get__" = some (some (.builtin "getset_descriptor.__get__"))) (x9_Outside : PySem.W.takesIn K (.builtin "object.__class__") = some true) (xa_Outside : PySem.W.mroIn K C_Outside (.type "object") = some true)
    (s_NarrowError_NarrowError : PySem.W.subIn K (.ref C_NarrowError) (.ref C_NarrowError) = some true)
    (s_NarrowError_Outside : PySem.W.subIn K (.ref C_NarrowError) (.ref C_Outside) = some false)
    (s_Outside_NarrowError : PySem.W.subIn K (.ref C_Outside) (.ref C_NarrowError) = some true)
    (s_Outside_Outside : PySem.W.subIn K (.ref C_Outside) (.ref C_Outside) = some true)
    {c_law_table_right P_law_table_right : Addr} {e_law_table_right : Value} {dd_law_table_right : Option Addr} {vs_law_table_right : Array Value} {so_law_table_right : Array (Option Value)} (cd_law_table_right : cd16 = .ref c_law_table_right) (lc_law_table_right : K.lookup c_law_table_right = some ⟨e_law_table_right, dd_law_table_right, .fields vs_law_table_right, so_law_table_right⟩) (vp_law_table_right : vs_law_table_right[11]? = some (.ref P_law_table_right)) (np_law_table_right : K.lookup P_law_table_right = none) (ch_law_table_right : PySem.W.codeHdIn K c_law_table_right P_law_table_right = true) (em_law_table_right : h.get? P_law_table_right = some { cls := .none, data := .fields #[] })
    : LamX.LawAtS l w K (L2.CX l.prog w) 6 63 "_law_script" mg fa h := by
  have e := hfa.symm.trans (PySem.W.mg_of X G a17)
  cases e
  subst cd_law_table_right
  have e_NarrowError := exA_of (PySem.W.mg_of X G g_NarrowError)
  have e_Outside := exA_of (PySem.W.mg_of X G g_Outside)
  have eo_Table := exA_of (PySem.W.mg_of X G og_Table)
  have Z : Zs K mg := ⟨PySem.W.mg_none_of X G z_enumerate, PySem.W.mg_none_of X G z_int, PySem.W.mg_none_of X G z_isinstance, PySem.W.mg_none_of X G z_len, PySem.W.mg_none_of X G z_list, PySem.W.mg_none_of X G z_max, PySem.W.mg_none_of X G z_min, PySem.W.mg_none_of X G z_range, PySem.W.mg_none_of X G z_sum, PySem.W.mg_none_of X G z_tuple, ⟨_, PySem.W.mg_of X G e_GAIN⟩, ⟨_, PySem.W.mg_of X G e_LEAST_WIDTH⟩, ⟨_, PySem.W.mg_of X G e_MOST_TOTAL⟩, ExF.mk' (PySem.W.mg_of X G g_NarrowError) x0_NarrowError x1_NarrowError x2_NarrowError x3_NarrowError x4_NarrowError x5_NarrowError x6_NarrowError x7_NarrowError x8_NarrowError x9_NarrowError xa_NarrowError, ExF.mk' (PySem.W.mg_of X G g_Outside) x0_Outside x1_Outside x2_Outside x3_Outside x4_Outside x5_Outside x6_Outside x7_Outside x8_Outside x9_Outside xa_Outside, (by rw [e_NarrowError]; exact s_NarrowError_NarrowError), (by rw [e_NarrowError]; exact kit_own x6_NarrowError x3_NarrowError s_NarrowError_NarrowError s_NarrowError_NarrowError), (by rw [e_NarrowError, e_Outside]; exact s_NarrowError_Outside), (by rw [e_NarrowError, e_Outside]; exact kit_own x6_Outside x3_Outside s_NarrowError_Outside s_NarrowError_NarrowError), (by rw [e_Outside, e_NarrowError]; exact s_Outside_NarrowError), (by rw [e_Outside, e_NarrowError]; exact kit_own x6_NarrowError x3_NarrowError s_Outside_NarrowError s_Outside_Outside), (by rw [e_Outside]; exact s_Outside_Outside), (by rw [e_Outside]; exact kit_own x6_Outside x3_Outside s_Outside_Outside s_Outside_Outside), CTup.mk' (PySem.W.mg_of X G tg_ROOT) (fun _ => SqT.ofK tl_ROOT rfl rfl (by show 3 ≤ sizeLine; decide) (.cons ⟨_, rfl⟩ (.cons ⟨_, rfl⟩ (.cons ⟨_, rfl⟩ (.nil))))), ClF.mk' (PySem.W.mg_of X G og_Table) ⟨o1_Table, o2_Table, o3_Table, o4_Table⟩, (by rw [eo_Table]; exact on_Table__counts)⟩
  have F0 := fun_mk (st := s_next_node) l0 c0 k0
  have F1 := fun_mk (st := s_Table___init__) l1 c1 k1
  have F2 := fun_mk (st := s_Table_counts) l2 c2 k2
  have F3 := fun_mk (st := s_Table_total) l3 c3 k3
  have F4 := fun_mk (st := s_Table_learn) l4 c4 k4
  have F5 := fun_mk (st := s_law_pool) l5 c5 k5
  have F6 := fun_mk (st := s_law_take) l6 c6 k6
  have F7 := fun_mk (st := s_law_one) l7 c7 k7
  have F8 := fun_mk (st := s_law_counts) l8 c8 k8
  have F9 := fun_mk (st := s_law_borders) l9 c9 k9
  have F10 := fun_mk (st := s_law_child) l10 c10 k10
  have F11 := fun_mk (st := s_law_node) l11 c11 k11
  have F12 := fun_mk (st := s_law_is_outside) l12 c12 k12
  have F13 := fun_mk (st := s_law_is_right) l13 c13 k13
  have F14 := fun_mk (st := s_law_learned) l14 c14 k14
  have F15 := fun_mk (st := s_law_is_refused) l15 c15 k15
  have F16 := fun_mk (st := s_law_table_right) l16 c16 k16
  have F17 := fun_mk (st := s_law) l17 c17 k17
  have hT : ∀ p ∈ ([(c_law_table_right, P_law_table_right)] : List (Addr × Addr)), PySem.W.CodeHd h p.1 p.2 ∧ h.get? p.2 = some { cls := .none, data := .fields #[] } := by
    intro p hp
    simp only [List.mem_cons, List.not_mem_nil, or_false] at hp
    rcases hp with rfl
    · exact ⟨PySem.W.codeHd_of_K X ch_law_table_right, em_law_table_right⟩
  have hN : ∀ p ∈ ([(c_law_table_right, P_law_table_right)] : List (Addr × Addr)), K.lookup p.2 = none := by
    intro p hp
    simp only [List.mem_cons, List.not_mem_nil, or_false] at hp
    rcases hp with rfl
    · exact np_law_table_right
  refine ⟨PySem.W.fnOf "law" "law" (defArgs s_law) (defBody s_law) (defScope s_law) .none kV17 dc17 pm17 an17 cd17 ct17, [(c_law_table_right, P_law_table_right)], sp_law [(P_law_table_right, qLam "_law_table_right")] K mg, fun p hp => (hT p hp).2, hN, fun p hp => (hT p hp).1, fun s v => .of_eq rfl, fun H a ns hl _ hH hS => law_start hl (fun t ht => ?_) hS, fun base _ _ hB => ?_⟩
  · simp only [List.mem_cons, List.not_mem_nil, or_false] at ht
    rcases ht with rfl
    · exact hH (c_law_table_right, P_law_table_right) (.head _)
  have R_next_node : Ok_next_node l.prog w K mg base := ⟨_, _, okx_next_node Z F0 (PySem.W.mg_of X G a0) ⟩
  have R_law_take : Ok_law_take l.prog w K mg base := ⟨_, _, okx_law_take Z F6 (PySem.W.mg_of X G a6) ⟩
  have R_law_is_outside : Ok_law_is_outside l.prog w K mg base := ⟨_, _, okx_law_is_outside Z F12 (PySem.W.mg_of X G a12) R_next_node⟩
  have R_law_borders : Ok_law_borders l.prog w K mg base := ⟨_, _, okx_law_borders Z F9 (PySem.W.mg_of X G a9) ⟩
  have R_law_child : Ok_law_child l.prog w K mg base := ⟨_, _, okx_law_child Z F10 (PySem.W.mg_of X G a10) R_law_borders⟩
  have R_law_is_right : Ok_law_is_right l.prog w K mg base := ⟨_, _, okx_law_is_right Z F13 (PySem.W.mg_of X G a13) R_law_child R_next_node R_law_borders⟩
  have R_law_one : Ok_law_one l.prog w K mg base := ⟨_, _, okx_law_one Z F7 (PySem.W.mg_of X G a7) R_law_take⟩
  have R_law_counts : Ok_law_counts l.prog w K mg base := ⟨_, _, okx_law_counts Z F8 (PySem.W.mg_of X G a8) R_law_one R_law_take⟩
  have R_law_node : Ok_law_node l.prog w K mg base := ⟨_, _, okx_law_node Z F11 (PySem.W.mg_of X G a11) R_law_one R_law_take⟩
  have R_law_pool : Ok_law_pool l.prog w K mg base := ⟨_, _, okx_law_pool Z F5 (PySem.W.mg_of X G a5) ⟩
  have R_Table_counts : Ok_Table_counts l.prog w K mg base := ⟨_, _, _, okx_Table_counts Z F2 , by rw [eo_Table]; exact ⟨pa2, pb2, pc2, ⟨_, pd2⟩⟩⟩
  have R_Table_learn : Ok_Table_learn l.prog w K mg base := ⟨_, _, okx_Table_learn Z F4 , by rw [eo_Table]; exact ⟨pa4, pb4, k4⟩⟩
  have R_Table___init__ : Ok_Table___init__ l.prog w K mg base := ⟨_, _, okx_Table___init__ Z F1 , by rw [eo_Table]; exact ⟨o5_Table, pa1, pb1, o6_Table⟩⟩
  have R_law_is_refused : OkG K mg "_law_is_refused" "_law_call" s_law_is_refused ["_law_call", "_law_told", "e"] := ⟨_, _, F15, PySem.W.mg_of X G a15, F15.binds fun _ _ _ _ _ _ us hl => (match us, hl with | [_], _ => rfl), sc_law_is_refused⟩
  have R_Table_total : Ok_Table_total l.prog w K mg base := ⟨_, _, _, okx_Table_total Z F3 , by rw [eo_Table]; exact ⟨pa3, pb3, pc3, ⟨_, pd3⟩⟩⟩
  have R_law_learned : Ok_law_learned l.prog w K mg base := ⟨_, _, okx_law_learned Z F14 (PySem.W.mg_of X G a14) ⟩
  have R_law_table_right : Ok_law_table_right [(P_law_table_right, qLam "_law_table_right")] l.prog w K mg base := ⟨_, _, okx_law_table_right (T := [(P_law_table_right, qLam "_law_table_right")]) Z F16 (PySem.W.mg_of X G a16) (hB (c_law_table_right, P_law_table_right) (.head _)) rfl (.head _) (by
      intro p hp e
      simp only [List.mem_cons, List.not_mem_nil, or_false] at hp
      rcases hp with rfl
      · exact rfl) R_Table_counts R_Table_learn R_Table___init__ R_law_is_refused R_law_one R_law_take R_Table_total R_law_learned⟩
  exact (okx_law (T := [(P_law_table_right, qLam "_law_table_right")]) (P := l.prog) (w := w) (base := base) Z F17 (PySem.W.mg_of X G a17) R_next_node R_law_take R_law_is_outside R_law_is_right R_law_counts R_law_node R_law_pool R_law_table_right).G
theorem walk {l : PySem.W.OpenLaw} {q : Program} {loose : List Str} {XP : (Str → Option Value) → Heap → Prop} {YP : World → Heap → Prop} {d : DefRec} {K : Params → PySem.W.Frag} (hn : l.most = some 63) (hdf : d.params.defaults = [])
    (hY : ∀ (w : World) (h : Heap), YP w h → (K w.params).In h)
    (F : ∀ (w : World) (mg : Str → Option Value) (fa : Addr) (h : Heap), YP w h → (K w.params).In h → h.Ns mainGlobals mg → mg d.name = some (.ref fa) → LamX.LawAtS l w (K w.params) (L2.CX l.prog w) 6 63 "_law_script" mg fa h) :
    PySem.W.WalkO q loose XP YP l.row.toRowW d [] (fun f vs => PySem.call f vs) :=
  LamX.walk_ofTs (n := 63) (k := 6) (x := "_law_script") (CX := fun w => L2.CX l.prog w) hn (by decide) hdf ⟨rfl, by decide, by decide⟩ hY F fun _ _ _ _ _ z => cx_none z
end NB
open PySem PySem.W PyProof.Rows in
set_option maxRecDepth 100000 in
set_option maxHeartbeats 0 in
theorem PySem.Challenge.cw_narrowingbits_k06_letters_fill_the_node_holds : PySem.Challenge.rw_narrowingbits_k06_letters_fill_the_node.Holds := by
  w_on; o_law; k_head; (case hw => w_witness2)
  k_fill
  refine NB.walk (l := PySem.Challenge.rw_narrowingbits_k06_letters_fill_the_node) rfl rfl (fun w h Y => PySem.W.km_in_of Y) ?F
  case F =>
    intro w mg fa h Y KX G hmg
    refine' NB.all_mk KX G hmg ?a0 ?l0 ?c0 ?k0 ?l1 ?c1 ?k1 ?l2 ?c2 ?k2 ?l3 ?c3 ?k3 ?l4 ?c4 ?k4 ?a5 ?l5 ?c5 ?k5 ?a6 ?l6 ?c6 ?k6 ?a7 ?l7 ?c7 ?k7 ?a8 ?l8 ?c8 ?k8 ?a9 ?l9 ?c9 ?k9 ?a10 ?l10 ?c10 ?k10 ?a11 ?l11 ?c11 ?k11 ?a12 ?l12 ?c12 ?k12 ?a13 ?l13 ?c13 ?k13 ?a14 ?l14 ?c14 ?k14 ?a15 ?l15 ?c15 ?k15 ?a16 ?l16 ?c16 ?k16 ?a17 ?l17 ?c17 ?k17 ?tg_ROOT ?tl_ROOT ?og_Table ?o1_Table ?o2_Table ?o3_Table ?o4_Table ?o5_Table ?o6_Table ?on_Table__counts ?pa1 ?pb1 ?pa2 ?pb2 ?pc2 ?pd2 ?pa3 ?pb3 ?pc3 ?pd3 ?pa4 ?pb4 ?z_enumerate ?z_int ?z_isinstance ?z_len ?z_list ?z_max ?z_min ?z_range ?z_sum ?z_tuple ?e_GAIN ?e_LEAST_WIDTH ?e_MOST_TOTAL ?g_NarrowError ?x0_NarrowError ?x1_NarrowError ?x2_NarrowError ?x3_NarrowError ?x4_NarrowError ?x5_NarrowError ?x6_NarrowError ?x7_NarrowError ?x8_NarrowError ?x9_NarrowError ?xa_NarrowError ?g_Outside ?x0_Outside ?x1_Outside ?x2_Outside ?x3_Outside ?x4_Outside ?x5_Outside ?x6_Outside ?x7_Outside ?x8_Outside ?x9_Outside ?xa_Outside ?s_NarrowError_NarrowError ?s_NarrowError_Outside ?s_Outside_NarrowError ?s_Outside_Outside ?cd_law_table_right ?lc_law_table_right ?vp_law_table_right ?np_law_table_right ?ch_law_table_right ?em_law_table_right
    (case tg_ROOT => k_is)
    (case og_Table => k_is)
    (case pa1 => k_is)
    (case pb1 => k_is)
    (case pa2 => k_is)
    (case pb2 => k_is)
    (case pc2 => k_is)
    (case pd2 => k_is)
    (case pa3 => k_is)
    (case pb3 => k_is)
    (case pc3 => k_is)
    (case pd3 => k_is)
    (case pa4 => k_is)
    (case pb4 => k_is)
    (case a0 => k_is)
    (case l0 => k_is)
    (case c0 => k_is)
    (case k0 => k_is)
    (case l1 => k_is)
    (case c1 => k_is)
    (case k1 => k_is)
    (case l2 => k_is)
    (case c2 => k_is)
    (case k2 => k_is)
    (case l3 => k_is)
    (case c3 => k_is)
    (case k3 => k_is)
    (case l4 => k_is)
    (case c4 => k_is)
    (case k4 => k_is)
    (case a5 => k_is)
    (case l5 => k_is)
    (case c5 => k_is)
    (case k5 => k_is)
    (case a6 => k_is)
    (case l6 => k_is)
    (case c6 => k_is)
    (case k6 => k_is)
    (case a7 => k_is)
    (case l7 => k_is)
    (case c7 => k_is)
    (case k7 => k_is)
    (case a8 => k_is)
    (case l8 => k_is)
    (case c8 => k_is)
    (case k8 => k_is)
    (case a9 => k_is)
    (case l9 => k_is)
    (case c9 => k_is)
    (case k9 => k_is)
    (case a10 => k_is)
    (case l10 => k_is)
    (case c10 => k_is)
    (case k10 => k_is)
    (case a11 => k_is)
    (case l11 => k_is)
    (case c11 => k_is)
    (case k11 => k_is)
    (case a12 => k_is)
    (case l12 => k_is)
    (case c12 => k_is)
    (case k12 => k_is)
    (case a13 => k_is)
    (case l13 => k_is)
    (case c13 => k_is)
    (case k13 => k_is)
    (case a14 => k_is)
    (case l14 => k_is)
    (case c14 => k_is)
    (case k14 => k_is)
    (case a15 => k_is)
    (case l15 => k_is)
    (case c15 => k_is)
    (case k15 => k_is)
    (case a16 => k_is)
    (case l16 => k_is)
    (case c16 => k_is)
    (case k16 => k_is)
    (case a17 => k_is)
    (case l17 => k_is)
    (case c17 => k_is)
    (case k17 => k_is)
    (case tl_ROOT => k_is)
    (case o1_Table => k_is)
    (case o2_Table => k_is)
    (case o3_Table => k_is)
    (case o4_Table => k_is)
    (case o5_Table => k_is)
    (case o6_Table => k_is)
    (case on_Table__counts => k_is)
    (case z_enumerate => k_is)
    (case z_int => k_is)
    (case z_isinstance => k_is)
    (case z_len => k_is)
    (case z_list => k_is)
    (case z_max => k_is)
    (case z_min => k_is)
    (case z_range => k_is)
    (case z_sum => k_is)
    (case z_tuple => k_is)
    (case e_GAIN => k_is)
    (case e_LEAST_WIDTH => k_is)
    (case e_MOST_TOTAL => k_is)
    (case g_NarrowError => k_is)
    (case x0_NarrowError => k_exc)
    (case x1_NarrowError => k_is)
    (case x2_NarrowError => k_is)
    (case x3_NarrowError => k_is)
    (case x4_NarrowError => k_is)
    (case x5_NarrowError => k_is)
    (case x6_NarrowError => k_is)
    (case x7_NarrowError => k_is)
    (case x8_NarrowError => k_is)
    (case x9_NarrowError => k_is)
    (case xa_NarrowError => k_is)
    (case g_Outside => k_is)
    (case x0_Outside => k_exc)
    (case x1_Outside => k_is)
    (case x2_Outside => k_is)
    (case x3_Outside => k_is)
    (case x4_Outside => k_is)
    (case x5_Outside => k_is)
    (case x6_Outside => k_is)
    (case x7_Outside => k_is)
    (case x8_Outside => k_is)
    (case x9_Outside => k_is)
    (case xa_Outside => k_is)
    (case s_NarrowError_NarrowError => first | rfl | k_is)
    (case s_NarrowError_Outside => first | rfl | k_is)
    (case s_Outside_NarrowError => first | rfl | k_is)
    (case s_Outside_Outside => first | rfl | k_is)
    (case cd_law_table_right => rfl)
    (case lc_law_table_right => k_is)
    (case vp_law_table_right => rfl)
    (case np_law_table_right => kernel_rfl)
    (case ch_law_table_right => kernel_rfl)
    (case em_law_table_right => exact PySem.W.km_tabs_of Y _ (by simp))
#print axioms PySem.Challenge.cw_narrowingbits_k06_letters_fill_the_node_holds
