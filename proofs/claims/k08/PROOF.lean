import PyProof.Rows.All
import Wide.All
import OpenK.AllK
import Wide.FinOn
import HandS.ForMost
import HandS.IsInst
import HandS.Style
import HandS.FStr
import HandS.StrMore
import HandS.WideBits
import HandS.Walk
import PyProof.Rows.StrIntSpec
import PyProof.FString3
import PyProof.Rows.FStr
import PySem.Challenge.RW_narrowingbits_k08_ends_by_trying_all
set_option Elab.async false
set_option maxRecDepth 100000
set_option maxHeartbeats 4000000
namespace NB
open PySem L2
/-! ### the frozen part, the steps -/
/-- from (F, H) to (F', H'): F is what stands still, H the whole; S: the cells that may be written -/
structure Stp (S : Addr → Prop) (F H F' H' : Hp) : Prop where
  ff : Same F F'
  fh : Same F' H'
  fo : ∀ b o, H b = some o → F' b = F b
  keep : ∀ b o, ¬ S b → H b = some o → H' b = some o
  dom : ∀ b o, H b = some o → ∃ o', H' b = some o'
abbrev S0 : Addr → Prop := fun _ => False
abbrev S1 (p : Addr) : Addr → Prop := fun b => b = p
section
variable {S S' : Addr → Prop} {F H F1 H1 F2 H2 : Hp} {p : Addr} {o o' : HO}
theorem Stp.rfl' (h : Same F H) : Stp S F H F H := ⟨Same.refl F, h, fun _ _ _ => rfl, fun _ _ _ e => e, fun _ o e => ⟨o, e⟩⟩
theorem Stp.trans (a : Stp S F H F1 H1) (b : Stp S F1 H1 F2 H2) : Stp S F H F2 H2 :=
  ⟨a.ff.trans b.ff, b.fh, fun c o e => by
    obtain ⟨o', e'⟩ := a.dom c o e
    rw [b.fo c o' e', a.fo c o e], fun c o n e => b.keep c o n (a.keep c o n e), fun c o e => by
    obtain ⟨o', e'⟩ := a.dom c o e
    exact b.dom c o' e'⟩
theorem Stp.sub (i : ∀ b, S b → S' b) (a : Stp S F H F1 H1) : Stp S' F H F1 H1 := ⟨a.ff, a.fh, a.fo, fun b o n e => a.keep b o (fun z => n (i b z)) e, a.dom⟩
theorem Stp.up (a : Stp S0 F H F1 H1) : Stp S F H F1 H1 := a.sub fun _ z => z.elim
theorem Stp.same (a : Stp S0 F H F1 H1) : Same H H1 := fun b o e => a.keep b o (fun z => z) e
/-- a new thing that will never change -/
theorem Stp.new (h : Same F H) (hp : H p = none) : Stp S F H (upd F p o) (upd H p o) := by
  have fp : F p = none := h.free hp
  refine ⟨fun b u e => ?_, fun b u e => ?_, fun b u e => ?_, fun b u _ e => ?_, fun b u e => ⟨u, ?_⟩⟩
  · rw [upd_ne (ne_of_none e fp)]; exact e
  · by_cases q : b = p
    · subst q; rw [upd_same] at e ⊢; exact e
    · rw [upd_ne q] at e ⊢; exact h b u e
  · rw [upd_ne (ne_of_none e hp)]
  · rw [upd_ne (ne_of_none e hp)]; exact e
  · rw [upd_ne (ne_of_none e hp)]; exact e
/-- a new cell -/
theorem Stp.cell (h : Same F H) (hp : H p = none) : Stp S F H F (upd H p o) :=
  ⟨Same.refl F, fun b u e => by rw [upd_ne (ne_of_none (h b u e) hp)]; exact h b u e, fun _ _ _ => rfl, fun b u _ e => by rw [upd_ne (ne_of_none e hp)]; exact e, fun b u e => ⟨u, by rw [upd_ne (ne_of_none e hp)]; exact e⟩⟩
/-- a cell written -/
theorem Stp.wr (h : Same F H) (hs : S p) (fp : F p = none) : Stp S F H F (upd H p o) :=
  ⟨Same.refl F, fun b u e => by
    have n : b ≠ p := fun q => by rw [q, fp] at e; cases e
    rw [upd_ne n]; exact h b u e, fun _ _ _ => rfl, fun b u n e => by
    have q : b ≠ p := fun z => n (z ▸ hs)
    rw [upd_ne q]; exact e, fun b u e => by
    by_cases q : b = p
    · exact ⟨o, by rw [q, upd_same]⟩
    · exact ⟨u, by rw [upd_ne q]; exact e⟩⟩
/-- a cell that was made here is written -/
theorem Stp.wrNew (a : Stp S F H F1 H1) (hn : H p = none) (fp : F1 p = none) : Stp S F H F1 (upd H1 p o) :=
  ⟨a.ff, fun b u e => by
    have n : b ≠ p := fun q => by rw [q, fp] at e; cases e
    rw [upd_ne n]; exact a.fh b u e, a.fo, fun b u n e => by
    rw [upd_ne (ne_of_none e hn)]; exact a.keep b u n e, fun b u e => by
    rw [upd_ne (ne_of_none e hn)]; exact a.dom b u e⟩
/-- a cell that was made here stands still from now on -/
theorem Stp.freeze (a : Stp S F H F1 H1) (hn : H p = none) (hp : H1 p = some o) (fp : F1 p = none) : Stp S F H (upd F1 p o) H1 :=
  ⟨fun b u e => by
    have e1 := a.ff b u e
    rw [upd_ne (ne_of_none e1 fp)]; exact e1, fun b u e => by
    by_cases q : b = p
    · subst q; rw [upd_same] at e; cases e; exact hp
    · rw [upd_ne q] at e; exact a.fh b u e, fun b u e => by
    rw [upd_ne (ne_of_none e hn)]; exact a.fo b u e, a.keep, a.dom⟩
theorem Stp.free (a : Stp S F H F1 H1) (hp : H p = some o) (fp : F p = none) : F1 p = none := (a.fo p o hp).trans fp
end
/-! ### a def that stands, with its promise -/
structure Fn (P : Program) (w : World) (K : PySem.W.Frag) (mg : Str → Option Value) (base : Heap) (CX : CXT) (k : Nat) (nm : Str) (st : Stmt) (f : Addr) (fd : FuncData) (ps : List Str) (sp : Sp) : Prop where
  G : FnOk P w K mg base CX k f fd ps sp
  m : mg nm = some (.ref f)
  kp : PySem.W.keepIn K (.ref f) = true
  b : Binds K fd ps []
  F : Fun K nm nm st f fd
/-! ### keywords -/
def gK {α : Type} (n m : Nat) (us ws : List α) : List α := if us.length = n ∧ ws.length = m then us ++ ws else []
theorem _root_.L2.Fun.kbinds {K : PySem.W.Frag} {x qual : Str} {st : Stmt} {f : Addr} {fd : FuncData} {ps : List Str} (F : Fun K x qual st f fd) (n : Nat) (ks : List Str) (hn : 0 < ps.length)
    (h : ∀ (kV doc pm : Value) (an : Option Addr) (cdv ct : Value) (us ws : List Value), us.length = n → ws.length = ks.length → bindArgs (PySem.W.fnOf x qual (defArgs st) (defBody st) (defScope st) .none kV doc pm an cdv ct) ⟨us, ks.zip ws⟩ = pure (ps.zip (us ++ ws))) :
    KBinds K fd ps ks (gK n ks.length) (gK n ks.length) := by
  obtain ⟨oc, od, kV, doc, pm, an, cdv, ct, osl, rfl, lk, hcd⟩ := F.ex
  refine ⟨fun s us ws _ hl => ?_, fun {vs us zs ws} r rz => ?_⟩
  · by_cases c : us.length = n ∧ ws.length = ks.length
    · have e : gK n ks.length us ws = us ++ ws := if_pos c
      rw [e]
      exact .of_eq (h kV doc pm an cdv ct us ws c.1 c.2)
    · have e : gK n ks.length us ws = [] := if_neg c
      rw [e] at hl
      exact absurd hl (by show ¬ 0 = ps.length; omega)
  · unfold gK
    by_cases c : us.length = n ∧ ws.length = ks.length
    · have c' : vs.length = n ∧ zs.length = ks.length := ⟨r.length.trans c.1, rz.length.trans c.2⟩
      rw [if_pos c, if_pos c']
      exact r.append rz
    · have c' : ¬ (vs.length = n ∧ zs.length = ks.length) := fun z => c ⟨r.length.symm.trans z.1, rz.length.symm.trans z.2⟩
      rw [if_neg c, if_neg c']
      exact .nil
def tCallK0 (sp : Sp) (gV : List V → List V → List V) (E : XK) (tk : TA) : TE := fun σ H Q => tk σ H fun zs H2 => sp (gV [] zs) H2 Q E
theorem pe_callK0 {X : Cx} {CX : CXT} {k : Nat} {f : Addr} {fd : FuncData} {ps ks : List Str} {sp : Sp} {E : XK} {x : Str} {p pos : Pos} {kws : List Keyword} {tk : TA} {g : List Value → List Value → List Value} {gV : List V → List V → List V}
    (F : FnOk X.prog X.w X.K X.mg X.base CX k f fd ps sp) (hr : Room k X.A) (hg : Gl X x) (hm : X.mg x = some (.ref f)) (hk : PySem.W.keepIn X.K (.ref f) = true) (hb : KBinds X.K fd ps ks g gV) (hx : Passes CX X E) (hkw : PK X kws tk)
    (hall : (backToKw pos (keywordEach kws X.env)).all (·.1.isSome) = true := by rfl) (hks : (backToKw pos (keywordEach kws X.env)).filterMap (·.1) = ks := by rfl) (hdb : (x == ("__debug__" : Str)) = false := by decide)
    (hpl : ((backTo pos (starEach [] X.env)).any (·.1) || (backToKw pos (keywordEach kws X.env)).any (·.1.isNone)) = false := by rfl) : PE X (.Call (.Name x p) [] kws pos) (tCallK0 sp gV E tk) := by
  refine ⟨fun pins s σ H Q I h => ?_⟩
  refine wpAny_Call_Name_kw (ld_glob I hg hm ?_ hdb)
  refine PySem.W.callWith_KW0 (h₀ := X.base) I.ok.mod.kin hk hall ?_ hpl
  refine thn (hkw.run pos pins s σ H _ I h) fun ws s2 ⟨zs, H2, I2, rz, q2⟩ => ⟨I2.kIn, ?_⟩
  rw [hks]
  exact run_fnk F hr hb hx I2 .nil rz q2
def SpN (n : Nat) (s : Sp) : Sp := fun vs H Q E => vs.length = n ∧ s vs H Q E
/-! ### rules under names -/
def rInt1 : List V → Hp → VK → Prop := fun xs H Q => (∃ i, xs = [.int i] ∧ Q (.int i) H) ∨ ∃ k, xs = [.bl k] ∧ Q (.int (if k then 1 else 0)) H
def rMax2 : List V → Hp → VK → Prop := fun xs H Q => ∃ i j, xs = [.int i, .int j] ∧ Q (.int (if j > i then j else i)) H
def rMin2 : List V → Hp → VK → Prop := fun xs H Q => ∃ i j, xs = [.int i, .int j] ∧ Q (.int (if j < i then j else i)) H
def rLen (K : PySem.W.Frag) : List V → Hp → VK → Prop := fun xs H Q => ∃ p ys, xs = [.ref p] ∧ (SqL K H p ys ∨ SqT K H p ys) ∧ Q (.int ys.length) H
section
variable {X : Cx}
theorem c_int1 : CallR X (.type "int") rInt1 := call_int1
theorem c_max2 (hc : X.calm = true) : CallR X (.builtin "max") rMax2 := call_max2 hc
theorem c_min2 (hc : X.calm = true) : CallR X (.builtin "min") rMin2 := call_min2 hc
theorem c_len (K : PySem.W.Frag) (e : X.K = K) : CallR X (.builtin "len") (rLen K) := by subst e; exact call_len_seq
theorem c_isi (K : PySem.W.Frag) (e : X.K = K) : CallR X (.builtin "isinstance") (rIsi K) := by subst e; exact call_isi
theorem i_list (K : PySem.W.Frag) (e : X.K = K) : IxR X (rIxL K) := by subst e; exact ix_list
theorem i_tup (K : PySem.W.Frag) (e : X.K = K) : IxR X (rIxT K) := by subst e; exact ix_tup
theorem o_and1 : OpR X (binaryOp .BitAnd) (fun x y H Q => ∃ i : Int, x = .int i ∧ y = .int 1 ∧ Q (.int (i % 2)) H) := by
  intro pins s σ H x y v u Q I rx ry h
  obtain ⟨i, rfl, rfl, q⟩ := h
  exact op_andM pins s σ H _ _ v u Q I rx ry ⟨i, 1, rfl, rfl, by simpa using q⟩
theorem o_eqD (K : PySem.W.Frag) (e : X.K = K) (hu : X.A.units + 64 < cLine) : OpR X (compareOp .Eq) (rEqD K) := by subst e; exact op_eqD hu
theorem o_neD (K : PySem.W.Frag) (e : X.K = K) (hu : X.A.units + 64 < cLine) : OpR X (compareOp .NotEq) (rNeD K) := by subst e; exact op_neD hu
end
theorem sz {n : Nat} (h : n ≤ 100000) : n ≤ sizeLine := Nat.le_trans h (by decide)
/-! ### readings, step by step -/
section
variable {X : Cx} {K : PySem.W.Frag} {σ : L2.St} {H F : Hp} {Q : VK} {i : Nat} {v x y : V} {ta tb : TE} {r : R2}
theorem s_var (h : σ[i]? = some (some v)) (q : Q v H) : tVar i σ H Q := ⟨v, h, q⟩
theorem s_c (q : Q v H) : tC v σ H Q := q
theorem s_op (h : ta σ H fun x H1 => tb σ H1 fun y H2 => r x y H2 Q) : tOp r ta tb σ H Q := h
theorem s_I0 {g : Int → Int → V} {i j : Int} (q : Q (g i j) H) : rI0 g (.int i) (.int j) H Q := ⟨i, j, rfl, rfl, q⟩
theorem s_I {C : Int → Int → Prop} {g : Int → Int → V} {i j : Int} (c : C i j) (q : Q (g i j) H) : rI C g (.int i) (.int j) H Q := ⟨i, j, rfl, rfl, c, q⟩
theorem s_eq (h : scal x y = true) (q : Q (.bl (decide (x = y))) H) : rEq x y H Q := ⟨h, q⟩
theorem dec_int (i j : Int) : decide (V.int i = V.int j) = decide (i = j) := by by_cases h : i = j <;> simp [h]
theorem dec_str (i j : Str) : decide (V.str i = V.str j) = decide (i = j) := by by_cases h : i = j <;> simp [h]
theorem s_eqI {i j : Int} (q : Q (.bl (decide (i = j))) H) : rEq (.int i) (.int j) H Q := ⟨rfl, by rw [dec_int]; exact q⟩
theorem s_neI {i j : Int} (q : Q (.bl (!decide (i = j))) H) : rNe (.int i) (.int j) H Q := ⟨rfl, by rw [dec_int]; exact q⟩
theorem s_eqS {i j : Str} (q : Q (.bl (decide (i = j))) H) : rEq (.str i) (.str j) H Q := ⟨rfl, by rw [dec_str]; exact q⟩
theorem s_neS {i j : Str} (q : Q (.bl (!decide (i = j))) H) : rNe (.str i) (.str j) H Q := ⟨rfl, by rw [dec_str]; exact q⟩
theorem s_chain {r' : R2} {tc : TE} (h : ta σ H fun x H1 => tb σ H1 fun y H2 => r x y H2 fun z H3 => ∃ k, z = .bl k ∧ if k = true then tc σ H3 fun u H4 => r' y u H4 Q else Q (.bl false) H3) : tChain r r' ta tb tc σ H Q := by
  unfold tChain; exact h
theorem s_par3 {i j l : Nat} {ta : TA} {D : Ends} (h : ta σ H fun vs H1 => ∃ u v w, vs = [u, v, w] ∧ D.nx (((σ.set i (some u)).set j (some v)).set l (some w)) H1) : tPar3 i j l ta D σ H := h
theorem s_par {i j : Nat} {ta : TA} {D : Ends} (h : ta σ H fun vs H1 => ∃ v w, vs = [v, w] ∧ D.nx ((σ.set i (some v)).set j (some w)) H1) : tPar i j ta D σ H := h
theorem s_v2 {x y : V} {R : V → V → Prop} (h : R x y) : ∃ a b, [x, y] = [a, b] ∧ R a b := ⟨x, y, rfl, h⟩
theorem s_v3 {x y z : V} {R : V → V → V → Prop} (h : R x y z) : ∃ a b c, [x, y, z] = [a, b, c] ∧ R a b c := ⟨x, y, z, rfl, h⟩
theorem s_tup {t : TA} (h : t σ H fun xs H1 => xs.length ≤ sizeLine ∧ ∀ p, H1 p = none → Q (.ref p) (upd H1 p (.tup xs))) : tTup t σ H Q := h
theorem s_lst {t : TA} (h : t σ H fun xs H1 => xs.length ≤ sizeLine ∧ ∀ p, H1 p = none → Q (.ref p) (upd H1 p (.lst xs))) : tLst t σ H Q := h
theorem s_nil {Q : List V → Hp → Prop} (q : Q [] H) : tNil σ H Q := q
theorem s_cons {t : TA} {Q : List V → Hp → Prop} (h : ta σ H fun x H1 => t σ H1 fun xs H2 => Q (x :: xs) H2) : tCons ta t σ H Q := h
theorem s_call {sp : Sp} {dvs : List V} {E : XK} {t : TA} (h : t σ H fun vs H1 => sp (vs ++ dvs) H1 Q E) : tCall sp dvs E t σ H Q := h
theorem s_callK0 {sp : Sp} {gV : List V → List V → List V} {E : XK} {t : TA} (h : t σ H fun zs H1 => sp (gV [] zs) H1 Q E) : tCallK0 sp gV E t σ H Q := h
theorem s_callK {sp : Sp} {gV : List V → List V → List V} {E : XK} {t tk : TA} (h : t σ H fun vs H1 => tk σ H1 fun zs H2 => sp (gV vs zs) H2 Q E) : tCallK sp gV E t tk σ H Q := h
theorem s_bits (h : ta σ H fun x H1 => ∃ i, x = .int i ∧ Q (.int (Builtin.Int.intBits i : Nat)) H1) : tBits ta σ H Q := h
theorem s_i {i : Int} {R : Int → Prop} (h : R i) : ∃ j, V.int i = V.int j ∧ R j := ⟨i, rfl, h⟩
theorem s_bm {T : String} {r : V → List V → Hp → VK → Prop} {to : TE} {t : TA} (h : to σ H fun x H1 => tyV K T x H1 ∧ t σ H1 fun xs H2 => r x xs H2 Q) : tBM K T r to t σ H Q := h
theorem s_bm0 {T : String} {r : V → List V → Hp → VK → Prop} {to : TE} (h : to σ H fun x H1 => tyV K T x H1 ∧ r x [] H1 Q) : tBM0 K T r to σ H Q := h
theorem s_m1 {r : V → List V → Hp → VK → Prop} (h : ta σ H fun x H1 => (∃ a, x = .str a) ∧ tb σ H1 fun y H2 => r x [y] H2 Q) : tM1 r ta tb σ H Q := h
theorem s_cb {r : List V → Hp → VK → Prop} {t : TA} (h : t σ H fun vs H1 => r vs H1 Q) : tCB r t σ H Q := h
theorem s_test {Q : Bool → Hp → Prop} {t : TE} (h : t σ H fun x H' => ∃ k, x = .bl k ∧ Q k H') : tTest t σ H Q := h
theorem s_tB {Q : Bool → Hp → Prop} {t : TE} (h : t σ H fun x H' => ∃ k, x = .bl k ∧ Q k H') : tB t σ H Q := h
theorem s_bl {k : Bool} {Q : Bool → Hp → Prop} (q : Q k H) : ∃ k', V.bl k = .bl k' ∧ Q k' H := ⟨k, rfl, q⟩
theorem s_not {Q : Bool → Hp → Prop} {t : TT} (h : t σ H fun c H1 => Q (!c) H1) : tNot t σ H Q := h
theorem s_and {Q : Bool → Hp → Prop} {t u : TT} (h : t σ H fun c H1 => if c = true then u σ H1 Q else Q false H1) : tAnd t u σ H Q := h
theorem s_or {Q : Bool → Hp → Prop} {t u : TT} (h : t σ H fun c H1 => if c = true then Q true H1 else u σ H1 Q) : tOr t u σ H Q := h
theorem s_un {r : V → Hp → VK → Prop} (h : ta σ H fun x H1 => r x H1 Q) : tUn r ta σ H Q := h
theorem s_U {g : Int → V} {i : Int} (q : Q (g i) H) : rU g (.int i) H Q := ⟨i, rfl, q⟩
theorem s_int1 {i : Int} (q : Q (.int i) H) : rInt1 [.int i] H Q := .inl ⟨i, rfl, q⟩
theorem s_int1b {b : Bool} (q : Q (.int (if b then 1 else 0)) H) : rInt1 [.bl b] H Q := .inr ⟨b, rfl, q⟩
theorem s_ixL {p : Addr} {xs : List V} {i : Int} (h : SqL K H p xs) (a : atI xs i = some v) (q : Q v H) : rIxL K (.ref p) (.int i) H Q := ⟨p, xs, i, v, rfl, rfl, h, a, q⟩
theorem s_ixT {p : Addr} {xs : List V} {i : Int} (h : SqT K H p xs) (a : atI xs i = some v) (q : Q v H) : rIxT K (.ref p) (.int i) H Q := ⟨p, xs, i, v, rfl, rfl, h, a, q⟩
theorem s_len {p : Addr} {xs : List V} (h : SqL K H p xs) (q : Q (.int xs.length) H) : rLen K [V.ref p] H Q := ⟨p, xs, rfl, .inl h, q⟩
theorem s_lenT {p : Addr} {xs : List V} (h : SqT K H p xs) (q : Q (.int xs.length) H) : rLen K [V.ref p] H Q := ⟨p, xs, rfl, .inr h, q⟩
theorem s_max2 {i j : Int} (q : Q (.int (if j > i then j else i)) H) : rMax2 [.int i, .int j] H Q := ⟨i, j, rfl, q⟩
theorem s_min2 {i j : Int} (q : Q (.int (if j < i then j else i)) H) : rMin2 [.int i, .int j] H Q := ⟨i, j, rfl, q⟩
theorem s_isi {v : V} {n : String} {t : String} {b : Bool} (h : TyX K H v (.type t)) (e : kitB t n = some b) (q : Q (.bl b) H) : rIsi K [v, .ty n] H Q := ⟨v, .ty n, .type t, .type n, b, rfl, .ty n, h, kit_ty e, q⟩
theorem s_eqD {d e : PyData} (h1 : Dp K H x d) (h2 : Dp K H y e) (s1 : SeqAt.shaped d = true) (s2 : SeqAt.shaped e = true) (q : Q (.bl (PyData.eqv d e)) H) : rEqD K x y H Q := ⟨d, e, h1, h2, s1, s2, q⟩
theorem s_andV {c : Bool} (h : if c = true then tb σ H Q else Q (.bl false) H) : ∃ c', V.bl c = .bl c' ∧ if c' = true then tb σ H Q else Q (.bl false) H := ⟨c, rfl, h⟩
theorem s_andV0 (h : ta σ H fun x H1 => ∃ c, x = .bl c ∧ if c = true then tb σ H1 Q else Q (.bl false) H1) : tAndV ta tb σ H Q := h
theorem s_orV0 (h : ta σ H fun x H1 => ∃ c, x = .bl c ∧ if c = true then Q (.bl true) H1 else tb σ H1 Q) : tOrV ta tb σ H Q := h
theorem s_notV (h : ta σ H fun x H1 => ∃ c, x = .bl c ∧ Q (.bl (!c)) H1) : tNotV ta σ H Q := h
theorem s_b {c : Bool} {R : Bool → Prop} (h : R c) : ∃ c', V.bl c = V.bl c' ∧ R c' := ⟨c, rfl, h⟩
theorem s_gtup {n : Nat} {t : TGs} {a : Addr} {xs : List V} {R : L2.St → Hp → Prop} (h : SqT K H a xs) (e : xs.length = n) (q : t xs σ H R) : gTup K n t (.ref a) σ H R := ⟨a, xs, rfl, h, e, q⟩
theorem s_gcons {t : TG} {u : TGs} {r : List V} {R : L2.St → Hp → Prop} (q : t v σ H fun σ' H' => u r σ' H' R) : gCons t u (v :: r) σ H R := ⟨v, r, rfl, q⟩
theorem s_gnil {R : L2.St → Hp → Prop} (q : R σ H) : gNil [] σ H R := ⟨rfl, q⟩
theorem s_gsub {to ti : TE} {t : TSet} {R : L2.St → Hp → Prop} (h : to σ H fun o H1 => ti σ H1 fun i H2 => t o i v H2 fun H3 => R σ H3) : gSub to ti t v σ H R := h
theorem s_setL {p : Addr} {xs : List V} {i : Int} {j : Nat} {R : Hp → Prop} (h : H p = some (.lst xs)) (e : ixN xs.length i = some j) (q : R (upd H p (.lst (xs.set j v)))) : rSetL (.ref p) (.int i) v H R := ⟨p, xs, i, j, rfl, rfl, h, e, q⟩
theorem s_ifE {t : TT} (h : t σ H fun c H1 => if c = true then ta σ H1 Q else tb σ H1 Q) : tIf t ta tb σ H Q := h
variable {D : Ends} {t u : TS}
theorem s_seq (h : t { D with nx := u D } σ H) : tSeq t u D σ H := h
theorem s_next (h : D.nx σ H) : tNext D σ H := h
theorem s_asg {g : TG} (h : ta σ H fun x H1 => g x σ H1 D.nx) : tAsg ta g D σ H := h
theorem s_gname {R : L2.St → Hp → Prop} (h : R (σ.set i (some v)) H) : gName i v σ H R := h
theorem s_ret (h : ta σ H D.rt) : tRet ta D σ H := h
theorem s_if {c : TT} (h : c σ H fun b H1 => if b = true then t D σ H1 else u D σ H1) : tIfS c t u D σ H := h
theorem s_drop (h : ta σ H fun _ H1 => D.nx σ H1) : tDrop ta D σ H := h
/-- a loop over what stands -/
def forT (J : It) (g : TG) (tb : TS) : TS := tFor (fun _ H R => R J H) g tb
theorem s_for {wi : TI} {g : TG} {tb : TS} (h : wi σ H fun J H1 => forT J g tb D σ H1) : tFor wi g tb D σ H := h
theorem s_iR1 {ta : TA} {R : It → Hp → Prop} (h : ta σ H fun vs H1 => ∃ n : Int, vs = [.int n] ∧ -(2 ^ 62) ≤ n ∧ n < 2 ^ 62 ∧ R (Itr 0 n.toNat) H1) : iRng1 ta σ H R := h
theorem s_iR2 {ta : TA} {R : It → Hp → Prop} (h : ta σ H fun vs H1 => ∃ m n : Int, vs = [.int m, .int n] ∧ (-(2 ^ 62) ≤ m ∧ m < 2 ^ 62 ∧ -(2 ^ 62) ≤ n ∧ n < 2 ^ 62) ∧ R (Itr m (n - m).toNat) H1) : iRng2 ta σ H R := h
theorem s_iL {R : It → Hp → Prop} (h : ta σ H fun x H1 => ∃ a, x = .ref a ∧ (∃ xs, SqL K H1 a xs) ∧ R (Itl K a) H1) : iList K ta σ H R := h
theorem s_iT {R : It → Hp → Prop} (h : ta σ H fun x H1 => ∃ a, x = .ref a ∧ (∃ xs, SqT K H1 a xs) ∧ R (Itt K a) H1) : iTup K ta σ H R := h
theorem s_iS {R : It → Hp → Prop} (h : ta σ H fun x H1 => ∃ z, x = .str z ∧ R (Its z) H1) : iStr ta σ H R := h
theorem forW {J : It} {n : Nat} {G : Hp → Prop} {Y : Nat → Hp → V → Hp → Prop} {g : TG} {tb : TS} (w : Walk J n G Y) (Pv : Nat → L2.St → Hp → Prop) (h0 : Pv 0 σ H) (hG : ∀ i σ H, i ≤ n → Pv i σ H → G H)
    (hs : ∀ i x σ H H', i < n → Pv i σ H → Y i H x H' → g x σ H' fun σ2 H2 => tb { D with nx := Pv (i + 1), ct := Pv (i + 1), bk := D.nx } σ2 H2) (hd : ∀ σ H, Pv n σ H → D.nx σ H) : forT J g tb D σ H := for_it w Pv h0 hG hs hd
theorem forR {lo : Int} {n : Nat} {g : TG} {tb : TS} (Pv : Nat → L2.St → Hp → Prop) (h0 : Pv 0 σ H) (hs : ∀ i σ H, i < n → Pv i σ H → g (.int (lo + i)) σ H fun σ2 H2 => tb { D with nx := Pv (i + 1), ct := Pv (i + 1), bk := D.nx } σ2 H2)
    (hd : ∀ σ H, Pv n σ H → D.nx σ H) : forT (Itr lo n) g tb D σ H := for_range Pv h0 hs hd
theorem forL {a : Addr} {xs : List V} {g : TG} {tb : TS} (Pv : Nat → L2.St → Hp → Prop) (h0 : Pv 0 σ H) (hl : ∀ i σ H, i ≤ xs.length → Pv i σ H → SqL K H a xs)
    (hs : ∀ i x σ H, xs[i]? = some x → Pv i σ H → g x σ H fun σ2 H2 => tb { D with nx := Pv (i + 1), ct := Pv (i + 1), bk := D.nx } σ2 H2) (hd : ∀ σ H, Pv xs.length σ H → D.nx σ H) : forT (Itl K a) g tb D σ H := for_list Pv h0 hl hs hd
/-- a comprehension over what stands -/
def lcT (J : It) (g : TG) (tt : TT) (te : TE) (vs : List Nat) : TE := tLc (fun _ H R => R J H) g tt te vs
theorem s_lc {wi : TI} {g : TG} {tt : TT} {te : TE} {vs : List Nat} (h : wi σ H fun J H1 => lcT J g tt te vs σ H1 Q) : tLc wi g tt te vs σ H Q := h
theorem s_wipe {σ2 : L2.St} {vs : List Nat} {R : Prop} (h : wipe σ2 vs = wipe σ vs) (q : R) : wipe σ2 vs = wipe σ vs ∧ R := ⟨h, q⟩
theorem s_yes {Q : Bool → Hp → Prop} (q : Q true H) : tYes σ H Q := q
/-- within a comprehension: what has been made so far stands at D -/
structure LcP (S : Addr → Prop) (F H : Hp) (Dd : Addr) (R : Nat → List V → Hp → Hp → Prop) (i : Nat) (Hc : Hp) : Prop where
  ex : ∃ Fc acc, Stp S F H Fc Hc ∧ Fc Dd = none ∧ Hc Dd = some (.lst acc) ∧ acc.length ≤ i ∧ R i acc Fc Hc
  fresh : H Dd = none
theorem lcW {J : It} {n : Nat} {G : Hp → Prop} {Y : Nat → Hp → V → Hp → Prop} {g : TG} {tt : TT} {te : TE} {vs : List Nat} (w : Walk J n G Y) (S : Addr → Prop) (hF : Same F H) (hS : ∀ b, S b → ∃ o, H b = some o)
    (hG : ∀ F1 H1, Stp S F H F1 H1 → G H1) (R : Nat → List V → Hp → Hp → Prop) (hR : ∀ i acc F1 H1 d o, ¬ S d → F1 d = none → Stp S F H F1 H1 → R i acc F1 H1 → R i acc F1 (upd H1 d o)) (h0 : R 0 [] F H)
    (hs : ∀ i x acc d F1 H1 H2, i < n → Y i H1 x H2 → H d = none → ¬ S d → Stp S F H F1 H1 → F1 d = none → H1 d = some (.lst acc) → acc.length ≤ i → R i acc F1 H1 → g x (wipe σ vs) H2 fun σ2 H3 => wipe σ2 vs = wipe σ vs ∧ tt σ2 H3 fun b H4 =>
      if b = true then te σ2 H4 fun y H5 => ∃ acc', H5 d = some (.lst acc') ∧ acc'.length < sizeLine ∧ LcP S F H d R (i + 1) (upd H5 d (.lst (acc' ++ [y]))) else LcP S F H d R (i + 1) H4)
    (hd : ∀ d acc F0 F1 H1, Stp S F H F0 H1 → H d = none → F0 d = none → F1 = upd F0 d (.lst acc) → Stp S F H F1 H1 → acc.length ≤ n → R n acc F0 H1 → Q (.ref d) H1) : lcT J g tt te vs σ H Q := by
  intro d hd0
  have nS : ¬ S d := fun z => by
    obtain ⟨o, e⟩ := hS d z
    rw [hd0] at e; cases e
  refine lc_it w (LcP S F H d R) ⟨⟨F, [], Stp.cell hF hd0, hF.free hd0, upd_same, Nat.le_refl _, hR 0 [] F H d _ nS (hF.free hd0) (.rfl' hF) h0⟩, hd0⟩ (fun i H1 _ p => ?_) (fun i x H1 H2 hi p y => ?_) (fun H1 p => ?_)
  · obtain ⟨⟨Fc, acc, st, _⟩, _⟩ := p
    exact hG _ _ st
  · obtain ⟨⟨Fc, acc, st, f0, e, hl, r⟩, _⟩ := p
    exact hs i x acc d Fc H1 H2 hi y hd0 nS st f0 e hl r
  · obtain ⟨⟨Fc, acc, st, f0, e, hl, r⟩, _⟩ := p
    exact hd d acc Fc _ H1 st hd0 f0 rfl (st.freeze hd0 e f0) hl r
theorem lc_end {S : Addr → Prop} {R : Nat → List V → Hp → Hp → Prop} {i : Nat} {acc : List V} {d : Addr} {F1 H1 F4 H4 : Hp} {y : V} (hN : H d = none) (nS : ¬ S d) (st : Stp S F H F1 H1) (f0 : F1 d = none) (e : H1 d = some (.lst acc)) (hl : acc.length ≤ i) (hi : i < 100000)
    (s4 : Stp S F1 H1 F4 H4) (r : R (i + 1) (acc ++ [y]) F4 (upd H4 d (.lst (acc ++ [y])))) : ∃ acc', H4 d = some (.lst acc') ∧ acc'.length < sizeLine ∧ LcP S F H d R (i + 1) (upd H4 d (.lst (acc' ++ [y]))) :=
  ⟨acc, s4.keep _ _ nS e, Nat.lt_of_lt_of_le (Nat.lt_of_le_of_lt hl hi) (by decide), ⟨⟨F4, acc ++ [y], (st.trans s4).wrNew hN ((s4.fo _ _ e).trans f0), (s4.fo _ _ e).trans f0, upd_same, by simp; omega, r⟩, hN⟩⟩
theorem lc_skip {S : Addr → Prop} {R : Nat → List V → Hp → Hp → Prop} {i : Nat} {acc : List V} {d : Addr} {F1 H1 F4 H4 : Hp} (hN : H d = none) (nS : ¬ S d) (st : Stp S F H F1 H1) (f0 : F1 d = none) (e : H1 d = some (.lst acc)) (hl : acc.length ≤ i)
    (s4 : Stp S F1 H1 F4 H4) (r : R (i + 1) acc F4 H4) : LcP S F H d R (i + 1) H4 := ⟨⟨F4, acc, st.trans s4, (s4.fo _ _ e).trans f0, s4.keep _ _ nS e, by omega, r⟩, hN⟩
theorem ifd {p A B : Prop} [Decidable p] (a : p → A) (b : ¬ p → B) : if decide p = true then A else B := by
  by_cases h : p
  · rw [if_pos (decide_eq_true h)]; exact a h
  · rw [if_neg (by simp [h])]; exact b h
theorem itNF {A B : Prop} (h : B) : if (!true) = true then A else B := h
theorem itNT {A B : Prop} (h : A) : if (!false) = true then A else B := h
theorem ifn {p A B : Prop} [Decidable p] (a : p → B) (b : ¬ p → A) : if (!decide p) = true then A else B := by
  by_cases h : p
  · rw [if_neg (by simp [h])]; exact a h
  · rw [if_pos (by simp [h])]; exact b h
end
theorem eqv_ints (u v : Int) : PyData.eqv (.tuple [.int u, .int v]) (.tuple [.int u, .int v]) = true := by simp [PyData.eqv, PyData.eqvAll]
/-! one step that needs no thought -/
local macro_rules | `(tactic| walk_at "cond") => `(tactic| first
  | decide
  | exact .inl ⟨by decide, by decide⟩
  | exact .inr ⟨by decide, by decide⟩
  | exact ⟨by decide, by decide⟩
  | exact ⟨by decide, by decide, by decide⟩
  | assumption
  | (show (0 : Int) < _; omega)
  | (show (0 : Int) ≤ _; omega)
  | exact .inl ⟨by omega, by omega⟩
  | exact .inr ⟨by omega, by omega⟩
  | exact ⟨by omega, by omega⟩
  | exact ⟨by omega, by omega, by omega⟩)
local macro_rules | `(tactic| walk_at "sq") => `(tactic| first
  | assumption
  | exact SqL.of (by assumption)
  | exact SqT.of (by assumption)
  | exact SqL.of upd_same
  | exact SqT.of upd_same)
local macro_rules | `(tactic| walk_at "r1") => `(tactic| first
  | (with_reducible refine s_seq ?_)
  | (with_reducible refine s_next ?_)
  | (with_reducible refine s_asg ?_)
  | (with_reducible refine s_gname ?_)
  | (with_reducible refine s_ret ?_)
  | (with_reducible refine s_if ?_)
  | (with_reducible refine s_drop ?_)
  | (with_reducible refine s_op ?_)
  | (with_reducible refine s_c ?_)
  | (with_reducible refine s_tup ?_)
  | (with_reducible refine s_lst ?_)
  | (with_reducible refine s_nil ?_)
  | (with_reducible refine s_cons ?_)
  | (with_reducible refine s_call ?_)
  | (with_reducible refine s_cb ?_)
  | (with_reducible refine s_test ?_)
  | (with_reducible refine s_tB ?_)
  | (with_reducible refine s_b ?_)
  | (with_reducible refine s_not ?_)
  | (with_reducible refine s_and ?_)
  | (with_reducible refine s_or ?_)
  | (with_reducible refine s_un ?_)
  | (with_reducible refine s_U ?_)
  | (with_reducible refine s_ifE ?_)
  | (with_reducible refine s_andV0 ?_)
  | (with_reducible refine s_orV0 ?_)
  | (with_reducible refine s_notV ?_)
  | (with_reducible refine s_I0 ?_)
  | (with_reducible refine s_chain ?_)
  | (with_reducible refine s_par3 ?_)
  | (with_reducible refine s_par ?_)
  | (with_reducible refine s_v2 ?_)
  | (with_reducible refine s_v3 ?_)
  | (with_reducible refine s_eqI ?_)
  | (with_reducible refine s_neI ?_)
  | (with_reducible refine s_eqS ?_)
  | (with_reducible refine s_neS ?_)
  | (with_reducible refine s_max2 ?_)
  | (with_reducible refine s_min2 ?_)
  | (with_reducible refine s_int1 ?_)
  | (with_reducible refine s_int1b ?_)
  | ((with_reducible refine' s_var ?h ?q); (case h => rfl))
  | (with_reducible refine s_for ?_)
  | (with_reducible refine s_iR1 ?_)
  | (with_reducible refine s_iR2 ?_)
  | (with_reducible refine s_iL ?_)
  | (with_reducible refine s_iT ?_)
  | (with_reducible refine s_iS ?_)
  | (with_reducible refine s_lc ?_)
  | (with_reducible refine s_yes ?_)
  | ((with_reducible refine' s_wipe ?h ?q); (case h => rfl))
  | (with_reducible refine s_callK0 ?_)
  | (with_reducible refine s_bits ?_)
  | (with_reducible refine s_i ?_)
  | (with_reducible refine s_bm ?_)
  | (with_reducible refine s_bm0 ?_)
  | (with_reducible refine s_m1 ?_)
  | (with_reducible refine s_callK ?_)
  | (with_reducible refine s_gsub ?_)
  | ((with_reducible refine' s_gtup ?h ?e ?q); (case h => walk_at "sq"); (case e => rfl))
  | (with_reducible refine s_gcons ?_)
  | (with_reducible refine s_gnil ?_)
  | ((with_reducible refine s_I ?c ?q); (case c => walk_at "cond"))
  | ((with_reducible refine' s_ixL ?h ?a ?q); (case h => walk_at "sq"); (case a => rfl))
  | ((with_reducible refine' s_ixT ?h ?a ?q); (case h => walk_at "sq"); (case a => rfl))
  | ((with_reducible refine' s_setL ?h ?a ?q); (case h => first | assumption | exact upd_same); (case a => rfl))
  | ((with_reducible refine' s_len ?h ?q); (case h => walk_at "sq"))
  | ((with_reducible refine' s_lenT ?h ?q); (case h => walk_at "sq"))
  | (with_reducible refine iteT ?_)
  | (with_reducible refine iteF ?_)
  | (with_reducible refine itNF ?_)
  | (with_reducible refine itNT ?_))
local macro_rules | `(tactic| walk_at "r") => `(tactic| (repeat walk_at "r1"))
/-! ### data compared: lists and tuples of numbers -/
open PyData in
theorem depthAll_ints : ∀ ns : List Int, depthAll (ns.map PyData.int) ≤ 1
  | [] => by simp [depthAll]
  | n :: ns => by
    have := depthAll_ints ns
    simp only [List.map_cons, depthAll, depth]
    omega
open PyData in
theorem canLay_ints : ∀ ns : List Int, canLayAll0 (ns.map PyData.int) = true
  | [] => rfl
  | n :: ns => by simp [canLayAll0, canLay0, canLay_ints ns]
theorem shaped_ints (ns : List Int) : SeqAt.shaped (.list (ns.map .int)) = true := by
  have h := depthAll_ints ns
  have e : (PyData.list (ns.map .int)).depth = PyData.depthAll (ns.map .int) + 1 := by rw [PyData.depth]
  exact Bool.and_eq_true_iff.mpr ⟨by rw [PyData.canLay0]; exact canLay_ints ns, decide_eq_true (by rw [e]; omega)⟩
theorem shaped_intsT (ns : List Int) : SeqAt.shaped (.tuple (ns.map .int)) = true := by
  have h := depthAll_ints ns
  have e : (PyData.tuple (ns.map .int)).depth = PyData.depthAll (ns.map .int) + 1 := by rw [PyData.depth]
  exact Bool.and_eq_true_iff.mpr ⟨by rw [PyData.canLay0]; exact canLay_ints ns, decide_eq_true (by rw [e]; omega)⟩
open PyData in
theorem eqvAll_ints : ∀ ns ms : List Int, eqvAll (ns.map PyData.int) (ms.map PyData.int) = decide (ns = ms)
  | [], [] => rfl
  | [], _ :: _ => by simp [eqvAll]
  | _ :: _, [] => by simp [eqvAll]
  | n :: ns, m :: ms => by
    simp only [List.map_cons, eqvAll, eqv, eqvAll_ints ns ms]
    by_cases h : n = m <;> by_cases h2 : ns = ms <;> simp [h, h2]
theorem eqv_intsL (ns ms : List Int) : PyData.eqv (.list (ns.map .int)) (.list (ms.map .int)) = decide (ns = ms) := by rw [PyData.eqv, eqvAll_ints]
theorem eqv_intsT (ns ms : List Int) : PyData.eqv (.tuple (ns.map .int)) (.tuple (ms.map .int)) = decide (ns = ms) := by rw [PyData.eqv, eqvAll_ints]
theorem dp_all_ints {K : PySem.W.Frag} {H : Hp} : ∀ ns : List Int, DpAll K H (ns.map V.int) (ns.map .int)
  | [] => .nil
  | n :: ns => .cons (.int n) (dp_all_ints ns)
theorem dp_ints {K : PySem.W.Frag} {H : Hp} {a : Addr} {ns : List Int} (h : SqL K H a (ns.map V.int)) : Dp K H (.ref a) (.list (ns.map .int)) := .lst h (dp_all_ints ns)
theorem dp_intsT {K : PySem.W.Frag} {H : Hp} {a : Addr} {ns : List Int} (h : SqT K H a (ns.map V.int)) : Dp K H (.ref a) (.tuple (ns.map .int)) := .tup h (dp_all_ints ns)
/-- two lists of numbers compared -/
theorem s_eqL {K : PySem.W.Frag} {H : Hp} {Q : VK} {a b : Addr} {ns ms : List Int} (h1 : SqL K H a (ns.map V.int)) (h2 : SqL K H b (ms.map V.int)) (q : Q (.bl (decide (ns = ms))) H) : rEqD K (.ref a) (.ref b) H Q :=
  s_eqD (dp_ints h1) (dp_ints h2) (shaped_ints _) (shaped_ints _) (by rw [eqv_intsL]; exact q)
theorem s_neL {K : PySem.W.Frag} {H : Hp} {Q : VK} {a b : Addr} {ns ms : List Int} (h1 : SqL K H a (ns.map V.int)) (h2 : SqL K H b (ms.map V.int)) (q : Q (.bl (!decide (ns = ms))) H) : rNeD K (.ref a) (.ref b) H Q :=
  ⟨_, _, dp_ints h1, dp_ints h2, shaped_ints _, shaped_ints _, by rw [eqv_intsL]; exact q⟩
theorem s_eqT {K : PySem.W.Frag} {H : Hp} {Q : VK} {a b : Addr} {ns ms : List Int} (h1 : SqT K H a (ns.map V.int)) (h2 : SqT K H b (ms.map V.int)) (q : Q (.bl (decide (ns = ms))) H) : rEqD K (.ref a) (.ref b) H Q :=
  s_eqD (dp_intsT h1) (dp_intsT h2) (shaped_intsT _) (shaped_intsT _) (by rw [eqv_intsT]; exact q)
theorem s_neT {K : PySem.W.Frag} {H : Hp} {Q : VK} {a b : Addr} {ns ms : List Int} (h1 : SqT K H a (ns.map V.int)) (h2 : SqT K H b (ms.map V.int)) (q : Q (.bl (!decide (ns = ms))) H) : rNeD K (.ref a) (.ref b) H Q :=
  ⟨_, _, dp_intsT h1, dp_intsT h2, shaped_intsT _, shaped_intsT _, by rw [eqv_intsT]; exact q⟩
theorem rep_int (n k : Nat) (b : Int) : (List.replicate n [V.int b]).flatten = (List.replicate n b).map V.int := by induction n <;> simp_all [List.replicate_succ]
theorem get_int {ns : List Int} {i : Nat} (h : i < ns.length) : (ns.map V.int)[i]? = some (V.int ns[i]) := by simp [h]
/-- what a call left behind: a new thing that stands still from now on -/
theorem Stp.got {S : Addr → Prop} {F H H' : Hp} {p : Addr} {o : HO} (h : Same F H) (s : Same H H') (hn : H p = none) (hp : H' p = some o) : Stp S F H (upd F p o) H' := by
  have fp : F p = none := h.free hn
  refine ⟨fun b u e => by rw [upd_ne (ne_of_none e fp)]; exact e, fun b u e => ?_, fun b u e => by rw [upd_ne (ne_of_none e hn)], fun b u _ e => s b u e, fun b u e => ⟨u, s b u e⟩⟩
  by_cases q : b = p
  · subst q; rw [upd_same] at e; cases e; exact hp
  · rw [upd_ne q] at e; exact s b u (h b u e)
/-! ### a list to draw from: [a great number, a number that is stirred] -/
def Src (F H : Hp) (p : Addr) : Prop := Same F H ∧ F p = none ∧ ∃ a b : Int, H p = some (.lst [.int a, .int b]) ∧ 0 ≤ b ∧ b < 2147483647
theorem Src.of {F H H' : Hp} {p : Addr} (h : Src F H p) (s : Same H H') : Src F H' p := let ⟨a, b, x, y, e, z⟩ := h; ⟨a.trans s, b, x, y, s _ _ e, z⟩
theorem Src.wr {F H : Hp} {p : Addr} {x y : Int} (h : Src F H p) (y0 : 0 ≤ y) (y1 : y < 2147483647) : Src F (upd H p (.lst [.int x, .int y])) p :=
  ⟨(Stp.wr (S := S1 p) h.1 rfl h.2.1).fh, h.2.1, x, y, upd_same, y0, y1⟩
theorem Src.weak {F F' H : Hp} {p : Addr} (h : Src F' H p) (s : Same F F') : Src F H p := let ⟨a, b, x⟩ := h; ⟨s.trans a, s.free b, x⟩
theorem Src.new {F H : Hp} {p q : Addr} {o : HO} (h : Src F H p) (hq : H q = none) : Src (upd F q o) (upd H q o) p := by
  obtain ⟨a, b, x, y, e, z⟩ := h
  have n : p ≠ q := ne_of_none e hq
  exact ⟨(Stp.new (S := S0) a hq).fh, by rw [upd_ne n]; exact b, x, y, by rw [upd_ne n]; exact e, z⟩
/-- a cell beside it is written -/
theorem Src.upd {F H : Hp} {p q : Addr} {o : HO} (h : Src F H p) (n : q ≠ p) (fq : F q = none) : Src F (upd H q o) p := by
  obtain ⟨a, b, x, y, e, z⟩ := h
  exact ⟨(Stp.wr (S := S1 q) a rfl fq).fh, b, x, y, by rw [upd_ne n.symm]; exact e, z⟩
theorem Src.dom {F H : Hp} {p : Addr} (h : Src F H p) : ∃ o, H p = some o := let ⟨_, _, x, y, e, _⟩ := h; ⟨_, e⟩
/-- behind a draw: what stands beside the cell is as it was -/
def Drawn (p : Addr) (F H H' : Hp) : Prop := Src F H' p ∧ Stp (S1 p) F H F H'
section SecFmt
open PySem PySem.Spec PyProof.Rows L2
/-- the binary digits of a number that is not negative, as a text -/
def binText (n : Nat) : Str := ⟨((Nat.toDigits 2 n).map Char.toNat).toArray⟩
def fB : Builtin.Float.FormatSpec := { align := 62, type := some 98 }
theorem parseB : Builtin.Float.parseFormatSpec (Str.ofString "b").cps.toList "int" 62 = Except.ok fB := by rfl
section
variable {prog : Program} {w : World} {A : Around} {E : Value → Shared → Prop} {s : Shared}
theorem ite_no {β : Type} {M : Model} {c : Prop} [Decidable c] {x y : Sem β} {Q : β → Shared → Prop} (h : ¬ c) (q : wpAny M A y Q E s) : wpAny M A (if c then x else y) Q E s := by rw [if_neg h]; exact q
theorem field_b {a : Int} {t : Tok} {Q : Value → Shared → Prop} (h0 : 0 ≤ a) (hl : (Nat.toDigits 2 a.natAbs).length ≤ 100000)
    (h : Q (.str (binText a.natAbs) (s.toks + 1)) { s with toks := s.toks + 1 + 1 }) : wpAny (model prog w) A (formatField (.int a t) (Str.ofString "b")) Q E s := by
  show wpAny _ _ (holding [.int a t] (pyFormat (.int a t) (Str.ofString "b"))) Q E s
  refine wpAny_holding ?_
  unfold pyFormat
  refine wpAny_bind (wpAny_mkStr ?_ (by decide))
  refine wpAny_bind (m := callSpecial? (.int a t) (Str.ofString "__format__") [.str (Str.ofString "b") s.toks])
    (wpAny_callSpecial?_slot (name := Str.ofString "__format__") (typeIs_int _ a t) slot_int_format ?_)
  refine wpAny_call (codeAny_call_builtin slot_int_format.plain entry_int_format
    (slot_int_format.check _ _ _ _ _ _ _ _ (typeIs_int _ a t) (args_int_format _ _) ?_))
  have hne : ((Str.ofString "b").length == 0) = false := by decide
  have hasc : (((Str.ofString "b").cps.toList.drop 1).any (· ≥ 128) || ((Str.ofString "b").cps.getD 0 0 ≥ 128 && !([60, 62, 61, 94] : List Nat).contains ((Str.ofString "b").cps.getD 1 0))) = false := by decide
  unfold Builtin.«int.__format__»
  simp only [selfAndOne, noKeywords, Builtin.Int.intOfSelf, asInt?, asStr?, List.isEmpty_nil, if_true, pure_bind, bind_pure, bind_assoc, hne, hasc, Bool.false_eq_true,
    if_false, show (Value.str (Str.ofString "b") s.toks == Value.none) = false from rfl]
  refine wpAny_bind (wpAny_typeNameOf (T := "str") (typeIs_str _ _ _) (by decide) fun _ => ?_)
  first | refine wpAny_bind (wpAny_typeNameOfCut_int ?_) | refine wpAny_bind (wpAny_typeNameOf_int ?_)
  simp only [parseB, fB]
  rw [if_pos (by decide)]
  simp only [Option.getD_some]
  show wpAny _ _ (retStr _) _ _ _
  unfold retStr
  have key : ∀ (x : Str), x = binText a.natAbs → x.length ≤ sizeLine ∧ Q (.str x (s.toks + 1)) { s with toks := s.toks + 1 + 1 } := fun x e => by
    subst e
    exact ⟨Nat.le_trans (by simpa [binText, Str.length] using hl) (by decide), h⟩
  refine wpAny_bind (wpAny_mkStr (wpAny_pure ?_) (key _ ?hs2).1)
  case hs2 =>
    conv => lhs; whnf
    have hneg : decide (a < 0) = false := by simpa using h0
    simp [hneg, binText]
  dsimp only
  refine wpAny_bind (wpAny_isInstance (typeIs_str _ _ _) isSubtype_str_str (wpAny_pure ?_))
  refine (key _ ?_).2
  conv => lhs; whnf
  have hneg : decide (a < 0) = false := by simpa using h0
  simp [hneg, binText]
end
section
variable {X : Cx}
/-- {n:b} -/
def tFmtB (te : TE) : TE := fun σ H Q => te σ H fun x H1 => ∃ i : Int, x = .int i ∧ 0 ≤ i ∧ (Nat.toDigits 2 i.natAbs).length ≤ 100000 ∧ Q (.str (binText i.natAbs)) H1
theorem pe_fmtB {e : Expr} {te : TE} {k : Nat} {p1 p2 pos : Pos} (he : PE X e te) : PE X (.FormattedValue e (-1) (some (.JoinedStr [.Constant (.str "b") k p1] p2)) pos) (tFmtB te) := by
  refine ⟨fun pins s σ H Q I h => ?_⟩
  refine wpAny_FormattedValue_spec (thn (he.run pins s σ H _ I h) fun v s1 hv => ?_)
  obtain ⟨x, H1, I1, r1, i, rfl, h0, hl, q⟩ := hv
  obtain ⟨t, rfl⟩ := r1
  have hp : PE X (.JoinedStr [.Constant (.str "b") k p1] p2) (tC (.str "b")) := pe_joined1 pe_str
  refine thn (hp.run pins s1 σ H1 (fun v H' => v = .str "b" ∧ H' = H1) I1 ⟨rfl, rfl⟩) fun r s2 hr => ?_
  obtain ⟨y, H2, I2, r2, rfl, rfl⟩ := hr
  obtain ⟨u, rfl⟩ := r2
  exact ⟨_, _, rfl, field_b h0 hl ⟨.str (binText i.natAbs), H2, I2.tok _, ⟨_, rfl⟩, q⟩⟩
end
end SecFmt
section SecBits
open PySem PySem.Spec PyProof.Rows L2
/-! ### binary digits -/
/-- the w lowest binary digits of n, the highest first -/
def fixL : Nat → Nat → List Int
  | 0, _ => []
  | w + 1, n => fixL w (n / 2) ++ [((n % 2 : Nat) : Int)]
theorem fixL_len : ∀ (w n : Nat), (fixL w n).length = w
  | 0, _ => rfl
  | w + 1, n => by rw [fixL, List.length_append, fixL_len w]; rfl
def isBit (b : Int) : Prop := b = 0 ∨ b = 1
theorem fixL_bit : ∀ (w n : Nat), ∀ b ∈ fixL w n, isBit b
  | 0, _, b, h => by simp [fixL] at h
  | w + 1, n, b, h => by
    rw [fixL, List.mem_append] at h
    rcases h with h | h
    · exact fixL_bit w _ b h
    · have : b = ((n % 2 : Nat) : Int) := by simpa using h
      have h2 : n % 2 < 2 := Nat.mod_lt _ (by decide)
      unfold isBit; omega
def code (b : Int) : Nat := (48 + b).toNat
def digs (n : Nat) : List Nat := (Nat.toDigits 2 n).map Char.toNat
theorem digs_small {n : Nat} (h : n < 2) : digs n = [48 + n] := by
  unfold digs; rw [Nat.toDigits_of_lt_base h]
  rcases (by omega : n = 0 ∨ n = 1) with rfl | rfl <;> rfl
theorem digs_step {n : Nat} (h : 2 ≤ n) : digs n = digs (n / 2) ++ [48 + n % 2] := by
  unfold digs; rw [Nat.toDigits_of_base_le (by decide) h, List.map_append]
  congr 1
  rcases (by omega : n % 2 = 0 ∨ n % 2 = 1) with e | e <;> rw [e] <;> rfl
theorem fixL_zero : ∀ w, (fixL w 0).map code = List.replicate w 48
  | 0 => rfl
  | w + 1 => by rw [fixL, List.map_append, fixL_zero w, List.replicate_succ']; rfl
theorem digs_fix : ∀ (w n : Nat), n < 2 ^ (w + 1) → (digs n).length ≤ w + 1 ∧ List.replicate (w + 1 - (digs n).length) 48 ++ digs n = (fixL (w + 1) n).map code
  | 0, n, h => by
    have h2 : n < 2 := by simpa using h
    rw [digs_small h2]
    rcases (by omega : n = 0 ∨ n = 1) with rfl | rfl <;> exact ⟨by decide, by decide⟩
  | w + 1, n, h => by
    by_cases h2 : n < 2
    · rw [digs_small h2]
      refine ⟨by simp, ?_⟩
      rw [fixL, List.map_append, show n / 2 = 0 by omega, fixL_zero]
      show List.replicate (w + 1) 48 ++ [48 + n] = _
      congr 1
      rcases (by omega : n = 0 ∨ n = 1) with rfl | rfl <;> rfl
    · have hp : n / 2 < 2 ^ (w + 1) := by rw [Nat.pow_succ] at h; omega
      obtain ⟨h3, h4⟩ := digs_fix w (n / 2) hp
      rw [digs_step (by omega), fixL, List.map_append, ← h4]
      refine ⟨by simp; omega, ?_⟩
      rw [List.length_append, List.length_singleton, show w + 1 + 1 - ((digs (n / 2)).length + 1) = w + 1 - (digs (n / 2)).length by omega, List.append_assoc]
      congr 2
theorem digs_head {n : Nat} : (digs n)[0]? = some 48 ∨ (digs n)[0]? = some 49 := by
  induction n using Nat.strongRecOn with
  | ind n ih =>
    by_cases h : n < 2
    · rw [digs_small h]; rcases (by omega : n = 0 ∨ n = 1) with rfl | rfl <;> simp
    · rw [digs_step (by omega)]
      have := ih (n / 2) (by omega)
      have hl : 0 < (digs (n / 2)).length := by
        cases e : digs (n / 2) with
        | nil => rw [e] at this; simp at this
        | cons => simp
      rw [List.getElem?_append_left hl]; exact this
theorem zfill_bin {w n : Nat} (h : n < 2 ^ (w + 1)) : (Txt.zfill (binText n) ((w + 1 : Nat) : Int)).cps.toList = (fixL (w + 1) n).map code := by
  obtain ⟨h1, h2⟩ := digs_fix w n h
  have hl : (binText n).length = (digs n).length := by simp [binText, Str.length, digs]
  have hc : (binText n).cps.toList = digs n := by simp [binText, digs]
  unfold Txt.zfill
  by_cases q : (((w + 1 : Nat) : Int) ≤ ((binText n).length : Int))
  · rw [if_pos q, hc, ← h2, show w + 1 - (digs n).length = 0 by omega]; rfl
  · rw [if_neg q]
    have e0 : ∀ x, (binText n).cps[0]? = some x → x ≠ 43 ∧ x ≠ 45 := fun x hx => by
      have : (digs n)[0]? = some x := by rw [← hc]; simpa using hx
      rcases digs_head (n := n) with z | z <;> rw [z] at this <;> cases this <;> decide
    unfold zfilled
    split
    · rename_i hx; exact absurd rfl (e0 _ hx).1
    · rename_i hx; exact absurd rfl (e0 _ hx).2
    · show (Array.replicate _ 48 ++ (binText n).cps ++ Array.replicate 0 48).toList = _
      rw [← h2]
      simp [hc, hl]
theorem bits_le {w n : Nat} (h : n < 2 ^ (w + 1)) : (Nat.toDigits 2 n).length ≤ w + 1 := by
  have := (digs_fix w n h).1
  simpa [digs] using this
theorem intBits_le {n : Int} {w : Nat} (h0 : 0 ≤ n) : (Builtin.Int.intBits n : Nat) ≤ w ↔ n.toNat < 2 ^ w := by
  unfold Builtin.Int.intBits
  by_cases h : n = 0
  · subst h; simp [Nat.two_pow_pos]
  · rw [if_neg (by simpa using h)]
    have e : n.natAbs = n.toNat := by omega
    rw [e, ← Nat.log2_lt (by omega : n.toNat ≠ 0)]
    omega
/-- the number of a list of digits, the highest first -/
def numL (bs : List Int) : Int := bs.foldl (fun a b => 2 * a + b) 0
theorem numL_snoc (bs : List Int) (b : Int) : numL (bs ++ [b]) = 2 * numL bs + b := by simp [numL, List.foldl_append]
theorem num_fixL : ∀ (w n : Nat), n < 2 ^ w → numL (fixL w n) = (n : Int)
  | 0, n, h => by
    have : n = 0 := by simpa using h
    subst this; rfl
  | w + 1, n, h => by
    rw [fixL, numL_snoc, num_fixL w (n / 2) (by rw [Nat.pow_succ] at h; omega)]
    omega
theorem code_bit {b : Int} (h : isBit b) : code b = 48 ∨ code b = 49 := by rcases h with rfl | rfl <;> decide
theorem text_bit {b : Int} (h : isBit b) : PySem.intText? ⟨#[code b]⟩ = some b := by rcases h with rfl | rfl <;> decide +kernel
/-- the digit at a place -/
theorem fixL_at : ∀ (w n i : Nat), i < w → (fixL w n)[i]? = some ((n / 2 ^ (w - 1 - i) % 2 : Nat) : Int)
  | 0, _, _, h => by omega
  | w + 1, n, i, h => by
    rw [fixL]
    by_cases hi : i < w
    · rw [List.getElem?_append_left (by rw [fixL_len]; exact hi), fixL_at w (n / 2) i hi]
      congr 3
      rw [Nat.div_div_eq_div_mul, show w + 1 - 1 - i = (w - 1 - i) + 1 by omega, Nat.pow_succ, Nat.mul_comm]
    · have : i = w := by omega
      subst this
      rw [List.getElem?_append_right (by rw [fixL_len]; exact Nat.le_refl _), fixL_len]
      simp
end SecBits
theorem s_fmtB {σ : L2.St} {H : Hp} {Q : VK} {te : TE} (h : te σ H fun x H1 => ∃ i : Int, x = .int i ∧ 0 ≤ i ∧ (Nat.toDigits 2 i.natAbs).length ≤ 100000 ∧ Q (.str (binText i.natAbs)) H1) : tFmtB te σ H Q := h
local macro_rules | `(tactic| walk_at "r1") => `(tactic| (with_reducible refine s_fmtB ?_))
def topS (i : Nat) : Stmt := PySem.Challenge.pw_narrowingbits_k08_ends_by_trying_all.main.body.getD i (.Pass ⟨0, 0, 0, 0⟩)
structure Zs (mg : Str → Option Value) : Prop where
  z_bool : mg "bool" = none
  z_int : mg "int" = none
  z_isinstance : mg "isinstance" = none
  z_len : mg "len" = none
  z_list : mg "list" = none
  z_max : mg "max" = none
  z_min : mg "min" = none
  z_range : mg "range" = none
  e_HALF_WIDTH : ∃ t, mg "HALF_WIDTH" = some (.int (32768) t)
  e_LEAST_WIDTH : ∃ t, mg "LEAST_WIDTH" = some (.int (65536) t)
  e_ROOT_SCALE : ∃ t, mg "ROOT_SCALE" = some (.int (16) t)
theorem Zs.c_HALF_WIDTH {mg : Str → Option Value} (Z : Zs mg) : mg "HALF_WIDTH" = some (.int (32768) (Classical.choose Z.e_HALF_WIDTH)) := Classical.choose_spec Z.e_HALF_WIDTH
theorem Zs.c_LEAST_WIDTH {mg : Str → Option Value} (Z : Zs mg) : mg "LEAST_WIDTH" = some (.int (65536) (Classical.choose Z.e_LEAST_WIDTH)) := Classical.choose_spec Z.e_LEAST_WIDTH
theorem Zs.c_ROOT_SCALE {mg : Str → Option Value} (Z : Zs mg) : mg "ROOT_SCALE" = some (.int (16) (Classical.choose Z.e_ROOT_SCALE)) := Classical.choose_spec Z.e_ROOT_SCALE
theorem pad_ok {i : Int} (h : 0 ≤ i ∧ i ≤ 10000) : PadOk i = true := by
  unfold PadOk fitsSsize Builtin.Str.tooLong
  have e : sizeLine = 16777216 := by decide
  simp [e]
  omega
/-! ### the promises -/
def bitsV (w n : Nat) : List V := (fixL w n).map V.int
def sp_fixed (_ : PySem.W.Frag) : Sp := SpN 2 fun vs H Q _ => ∃ (n w : Int), vs = [.int n, .int w] ∧ 0 ≤ n ∧ 0 ≤ w ∧ w ≤ 10000 ∧ n.toNat < 2 ^ w.toNat ∧
  ∀ p H', Same H H' → H p = none → H' p = some (.lst (bitsV w.toNat n.toNat)) → Q (.ref p) H'
/-- the bits of the end of a node -/
def endOf (l r k : Int) : List Int :=
  if ((-(-l / 65536)) + 1) * 65536 ≤ l + r then fixL (k - 16).toNat (-(-l / 65536)).toNat else fixL (k - 15).toNat (-(-l / 32768)).toNat
structure Node (l r k : Int) : Prop where
  l0 : 0 ≤ l
  r0 : 65536 ≤ r
  r1 : r < 131072
  k0 : 16 ≤ k
  top : l + r ≤ 2 ^ k.toNat
def sp_end_of (_ : PySem.W.Frag) : Sp := SpN 1 fun vs H Q _ => ∃ (q : Addr) (l r k : Int), vs = [.ref q] ∧ H q = some (.tup [.int l, .int r, .int k]) ∧ Node l r k ∧ k ≤ 1000 ∧
  ∀ p H', Same H H' → H p = none → H' p = some (.lst ((endOf l r k).map V.int)) → Q (.ref p) H'
def sp_law_pool (K : PySem.W.Frag) : Sp := SpN 2 fun vs H Q _ => ∃ (s : Addr) (ns : List Int) (k : Int), vs = [.ref s, .int k] ∧ SqL K H s (ns.map V.int) ∧ 0 ≤ k ∧ k < 100 ∧
  ∀ p H', Src H H' p → Q (.ref p) H'
def sp_law_take (_ : PySem.W.Frag) : Sp := SpN 2 fun vs H Q _ => ∃ (F : Hp) (p : Addr) (t : Int), vs = [.ref p, .int t] ∧ Src F H p ∧ 0 < t ∧ t < 1073741824 ∧
  ∀ r H', Src F H' p → Stp (S1 p) F H F H' → 0 ≤ r → r < t → Q (.int r) H'
def sp_law_one (K : PySem.W.Frag) : Sp := SpN 2 fun vs H Q _ => ∃ (F : Hp) (p q : Addr) (ns : List Int), vs = [.ref p, .ref q] ∧ Src F H p ∧ SqL K F q (ns.map V.int) ∧ 0 < ns.length ∧ ns.length < 1000 ∧
  ∀ r H', Src F H' p → Stp (S1 p) F H F H' → r ∈ ns → Q (.int r) H'
def sp_law_node (_ : PySem.W.Frag) : Sp := SpN 1 fun vs H Q _ => ∃ (F : Hp) (p : Addr), vs = [.ref p] ∧ Src F H p ∧
  ∀ q l r k H', Same F H' → H' q = some (.tup [.int l, .int r, .int k]) → Node l r k → k ≤ 21 → Q (.ref q) H'
def Within (v m l r k : Int) : Prop := l * 2 ^ m.toNat ≤ v * 2 ^ k.toNat ∧ (v + 1) * 2 ^ k.toNat ≤ (l + r) * 2 ^ m.toNat
instance (v m l r k : Int) : Decidable (Within v m l r k) := by unfold Within; infer_instance
def sp_law_lies_within (_ : PySem.W.Frag) : Sp := SpN 3 fun vs H Q _ => ∃ (v m l r k : Int) (q : Addr), vs = [.int v, .int m, .ref q] ∧ H q = some (.tup [.int l, .int r, .int k]) ∧ 0 ≤ m ∧ m ≤ 1000 ∧ 0 ≤ k ∧ k ≤ 1000 ∧
  0 ≤ v ∧ v < 2 ^ 60 ∧ 0 ≤ l ∧ l < 2 ^ 60 ∧ 0 ≤ r ∧ r < 2 ^ 60 ∧ Q (.bl (decide (Within v m l r k))) H
def sp_law_due (_ : PySem.W.Frag) : Sp := SpN 1 fun vs H Q _ => ∃ (q : Addr) (l r k : Int), vs = [.ref q] ∧ H q = some (.tup [.int l, .int r, .int k]) ∧ Node l r k ∧ k ≤ 21 ∧
  ∀ p H', Same H H' → H p = none → H' p = some (.lst ((endOf l r k).map V.int)) → Q (.ref p) H'
def sp_law (K : PySem.W.Frag) : Sp := SpN 1 fun vs H Q _ => ∃ (a : Addr) (ns : List Int), vs = [.ref a] ∧ SqL K H a (ns.map V.int) ∧ ns.length ≤ 63 ∧ ∀ H', Q (.bl true) H'
theorem law_start {K : PySem.W.Frag} {H : Hp} {a : Addr} {ns : List Int} {E : XK} (hl : ns.length ≤ 63) (hS : SqL K H a (ns.map V.int)) : sp_law K [.ref a] H (fun v _ => v = .bl true) E := ⟨rfl, a, ns, rfl, hS, hl, fun _ => rfl⟩
theorem within_low {v l r : Int} {m k : Nat} (hr : r < 131072) (hm : m + 17 ≤ k) : ¬ Within v m l r k := by
  rintro ⟨h1, h2⟩
  rw [Int.toNat_natCast, Int.toNat_natCast] at h1 h2
  have e : (2 : Int) ^ k = 2 ^ (k - m - 17) * 131072 * 2 ^ m := by
    have : k = (k - m - 17) + 17 + m := by omega
    conv => lhs; rw [this, Int.pow_add, Int.pow_add]
    rfl
  have p1 : (0 : Int) < 2 ^ m := Int.pow_pos (by decide)
  have p2 : (0 : Int) < 2 ^ (k - m - 17) := Int.pow_pos (by decide)
  have h3 : 2 ^ k ≤ r * 2 ^ m := by
    have := Int.add_mul v 1 ((2 : Int) ^ k)
    have := Int.add_mul l r ((2 : Int) ^ m)
    omega
  rw [e] at h3
  have h4 := Int.le_of_mul_le_mul_right h3 p1
  omega
theorem within_at {v l r c : Int} {m k : Nat} {e : Nat} (hc : c = 2 ^ e) (hk : k = m + e) : Within v m l r k ↔ (l ≤ v * c ∧ (v + 1) * c ≤ l + r) := by
  have p1 : (0 : Int) < 2 ^ m := Int.pow_pos (by decide)
  unfold Within
  rw [Int.toNat_natCast, Int.toNat_natCast, hk, Int.pow_add, ← hc]
  have a1 : v * (2 ^ m * c) = v * c * 2 ^ m := by rw [Int.mul_comm (2 ^ m) c, Int.mul_assoc]
  have a2 : (v + 1) * (2 ^ m * c) = (v + 1) * c * 2 ^ m := by rw [Int.mul_comm (2 ^ m) c, Int.mul_assoc]
  rw [a1, a2]
  exact ⟨fun ⟨x, y⟩ => ⟨Int.le_of_mul_le_mul_right x p1, Int.le_of_mul_le_mul_right y p1⟩, fun ⟨x, y⟩ => ⟨Int.mul_le_mul_of_nonneg_right x (by omega), Int.mul_le_mul_of_nonneg_right y (by omega)⟩⟩
theorem due_target {l r k : Int} (nd : Node l r k) : ∃ m v : Nat, (m : Int) + 15 ≤ k ∧ v < 2 ^ m ∧ Within v m l r k ∧ (∀ (m' : Nat) (v' : Int), m' < m → ¬ Within v' m' l r k) ∧ (∀ v' : Int, v' < v → ¬ Within v' m l r k) ∧ endOf l r k = fixL m v := by
  obtain ⟨l0, r0, r1, k0, top⟩ := nd
  obtain ⟨n, rfl⟩ : ∃ n : Nat, k = ((n + 16 : Nat) : Int) := ⟨(k - 16).toNat, by omega⟩
  rw [Int.toNat_natCast] at top
  have e16 : (2 : Int) ^ (n + 16) = 2 ^ n * 65536 := by rw [Int.pow_add]; rfl
  have e15 : (2 : Int) ^ (n + 1) = 2 ^ n * 2 := by rw [Int.pow_add]; rfl
  have c16 : ((2 ^ n : Nat) : Int) = 2 ^ n := by simp
  have c15 : ((2 ^ (n + 1) : Nat) : Int) = 2 ^ (n + 1) := by simp
  have w16 : ∀ v : Int, Within v n l r ((n + 16 : Nat) : Int) ↔ (l ≤ v * 65536 ∧ (v + 1) * 65536 ≤ l + r) := fun v => within_at (e := 16) (by decide) rfl
  have w15 : ∀ v : Int, Within v ((n + 1 : Nat) : Int) l r ((n + 16 : Nat) : Int) ↔ (l ≤ v * 32768 ∧ (v + 1) * 32768 ≤ l + r) := fun v => within_at (e := 15) (by decide) (by omega)
  by_cases h : ((-(-l / 65536)) + 1) * 65536 ≤ l + r
  · refine ⟨n, (-(-l / 65536)).toNat, by omega, ?_, ?_, fun m' v' hm => within_low r1 (by omega), fun v' hv => ?_, ?_⟩
    · refine Int.ofNat_lt.mp ?_
      rw [c16]; omega
    · rw [w16]; omega
    · rw [w16]; omega
    · rw [endOf, if_pos h]; congr 1; omega
  · refine ⟨n + 1, (-(-l / 32768)).toNat, by omega, ?_, ?_, fun m' v' hm => ?_, fun v' hv => ?_, ?_⟩
    · refine Int.ofNat_lt.mp ?_
      rw [c15]; omega
    · rw [w15]; omega
    · by_cases hn : m' = n
      · subst hn; rw [w16]; omega
      · exact within_low r1 (by omega)
    · rw [w15]; omega
    · rw [endOf, if_neg h]; congr 1; omega
section
variable {P : Program} {w : World} {K : PySem.W.Frag} {mg : Str → Option Value} {base : Heap}
abbrev s_fixed : Stmt := topS 4
theorem sc_fixed : FnScope ["n", "w", "digit"] ["n", "w"] (defScope s_fixed) := ⟨rfl, rfl, rfl, by decide +kernel, rfl, by decide +kernel, by decide +kernel⟩
def Ok_fixed (P : Program) (w : World) (K : PySem.W.Frag) (mg : Str → Option Value) (base : Heap) : Prop := ∃ fA fd, Fn P w K mg base CX0 1 "fixed" s_fixed fA fd ["n", "w"] (sp_fixed K)
theorem okx_fixed (Z : Zs mg) {fA : Addr} {fd : FuncData} (F : Fun K "fixed" "fixed" s_fixed fA fd) (m : mg "fixed" = some (.ref fA))  : Fn P w K mg base CX0 1 "fixed" s_fixed fA fd ["n", "w"] (sp_fixed K) := by
  refine ⟨F.ok sc_fixed (fun vs H Q E h => h.1) (fun cdv A outer s H vs Q E hr h => ?_), m, F.kp, F.binds fun _ _ _ _ _ _ us hl => match us, hl with | [_, _], _ => rfl, F⟩
  have hu64 := hr.units
  obtain ⟨hlen, h⟩ := h
  refine ⟨_, (pss_cons (ps_if (PW.pt (pw_or (pt_cmpR op_lt (pv 0) pe_int (nomark _)) (pw_or (pt_cmpR op_lt (pv 1) pe_int (nomark _)) (pw_or1 (pt_cmpR op_gt (pe_bits (pv 0)) (pv 1) (nomark _))))))
      (pss_one ps_never)
      pss_nil)
    (pss_cons (ps_if (pt_cmpR op_eq (pv 1) pe_int (nomark _))
      (pss_one (ps_ret (pe_lst pa_nil)))
      pss_nil)
    (pss_one (ps_ret (pe_lc (own := [("digit", 2)]) (g := gName 2) (tt := tYes) (by rfl) sc_fixed.nd (pi_str (pe_bm PySem.F.plainAttrs_str PySem.F.slot_str_zfill PySem.F.type_str_zfill mt_zfill (pe_joined1 (pe_fmtB (pv 0))) (pa_cons (pv 1) pa_nil))) (blkOk_by (own := [("digit", 2)]) (N := ["n", "w", "digit"]) (sc := defScope s_fixed) (by decide +kernel)) (fun _ _ _ _ _ => (pg_name (i := 2) sc_fixed.nd rfl (Or.inl rfl))) (fun _ _ _ _ _ => pts_nil) (fun _ _ _ _ _ => (pe_callTy call_int_str (by rfl) Z.z_int (by decide +kernel) (pa_cons (pv 2) pa_nil)))))))), ?_⟩
  obtain ⟨n, w, rfl, hn, hw, hw2, hlt, k⟩ := h
  walk_at "r"
  refine ifd (fun h => absurd h (by omega)) (fun _ => ?_)
  walk_at "r"
  refine ifd (fun h => absurd h (by omega)) (fun _ => ?_)
  walk_at "r"
  have hb := (intBits_le (w := w.toNat) hn).mpr hlt
  refine ifd (fun h => absurd h (by omega)) (fun _ => ?_)
  walk_at "r"
  refine ifd (fun h => ?_) (fun h => ?_)
  · walk_at "r"
    subst h
    exact ⟨sz (by simp), fun p hp => k p _ (Stp.new (S := S0) (Same.refl H) hp).same hp upd_same⟩
  · walk_at "r"
    obtain ⟨w', rfl⟩ : ∃ w' : Nat, w = ((w' + 1 : Nat) : Int) := ⟨w.toNat - 1, by omega⟩
    rw [Int.toNat_natCast] at hlt k
    have en : n.natAbs = n.toNat := by omega
    refine ⟨hn, Nat.le_trans (bits_le (n := n.natAbs) (by rw [en]; exact hlt)) (by omega), ?_⟩
    refine ⟨rfl, ?_⟩
    walk_at "r"
    refine ⟨_, _, rfl, rfl, pad_ok (by omega), ?_⟩
    refine ⟨_, rfl, ?_⟩
    have hz := zfill_bin hlt
    rw [show n.toNat = n.natAbs by omega] at hz
    have hs : (Txt.zfill (binText n.natAbs) ((w' + 1 : Nat) : Int)).cps.size = w' + 1 := by
      rw [← Array.length_toList, hz, List.length_map, fixL_len]
    refine lcW walk_str S0 (Same.refl H) (fun _ z => z.elim) (fun _ _ _ => trivial) (fun i acc F1 H1 => acc = (bitsV (w' + 1) n.toNat).take i) (fun _ _ _ _ _ _ _ _ _ r => r) rfl ?_ ?_
    · rintro i x acc d F1 H1 H2 hi ⟨rfl, c, hc, rfl⟩ hd nS st f0 e hl r
      walk_at "r"
      have hc2 : ((fixL (w' + 1) n.natAbs).map code)[i]? = some c := by rw [← hz]; simpa using hc
      rw [List.getElem?_map] at hc2
      cases hb2 : (fixL (w' + 1) n.natAbs)[i]? with
      | none => rw [hb2] at hc2; cases hc2
      | some b =>
        rw [hb2] at hc2
        have ec : code b = c := Option.some.inj hc2
        subst ec
        refine ⟨_, _, rfl, text_bit (fixL_bit _ _ b (List.mem_of_getElem? hb2)), (by show 1 ≤ 640; decide), ?_⟩
        refine lc_end hd nS st f0 e hl (by rw [hs] at hi; omega) (.rfl' st.fh) ?_
        have hi2 : i < (bitsV (w' + 1) n.toNat).length := by simp [bitsV, fixL_len]; rw [hs] at hi; exact hi
        rw [r, List.take_succ_eq_append_getElem hi2]
        congr 2
        have q2 : (bitsV (w' + 1) n.toNat)[i]? = some (V.int b) := by rw [bitsV, List.getElem?_map, ← en, hb2]; rfl
        rw [List.getElem?_eq_getElem hi2] at q2
        exact (Option.some.inj q2).symm
    · intro d acc F0 F1 H1 st hd f0 ef st1 hl r
      refine k d H1 st.same hd ?_
      rw [ef] at st1
      rw [st1.fh _ _ upd_same, r, hs, List.take_of_length_le (by simp [bitsV, fixL_len])]
abbrev s_end_of : Stmt := topS 9
theorem sc_end_of : FnScope ["node", "left", "width", "scale", "first"] ["node"] (defScope s_end_of) := ⟨rfl, rfl, rfl, by decide +kernel, rfl, by decide +kernel, by decide +kernel⟩
def Ok_end_of (P : Program) (w : World) (K : PySem.W.Frag) (mg : Str → Option Value) (base : Heap) : Prop := ∃ fA fd, Fn P w K mg base CX0 2 "end_of" s_end_of fA fd ["node"] (sp_end_of K)
theorem okx_end_of (Z : Zs mg) {fA : Addr} {fd : FuncData} (F : Fun K "end_of" "end_of" s_end_of fA fd) (m : mg "end_of" = some (.ref fA)) (C_fixed : Ok_fixed P w K mg base) : Fn P w K mg base CX0 2 "end_of" s_end_of fA fd ["node"] (sp_end_of K) := by
  obtain ⟨_, _, C_fixed⟩ := C_fixed
  refine ⟨F.ok sc_end_of (fun vs H Q E h => h.1) (fun cdv A outer s H vs Q E hr h => ?_), m, F.kp, F.binds fun _ _ _ _ _ _ us hl => match us, hl with | [_], _ => rfl, F⟩
  have hu64 := hr.units
  obtain ⟨hlen, h⟩ := h
  refine ⟨_, (pss_cons (ps_asg (pv 0) (pg_tup rfl (pgs_cons (pg_name (i := 1) sc_end_of.nd rfl (Or.inl rfl)) (pgs_cons (pg_name (i := 2) sc_end_of.nd rfl (Or.inl rfl)) (pgs_cons (pg_name (i := 3) sc_end_of.nd rfl (Or.inl rfl)) pgs_nil)))))
    (pss_cons (ps_set (i := 4) sc_end_of.nd rfl (Or.inl rfl) (pe_un un_neg (pe_op op_fdiv (pe_un un_neg (pv 1)) (pe_glob (v := .int (65536)) rfl Z.c_LEAST_WIDTH ⟨_, rfl⟩))))
    (pss_cons (ps_if (pt_cmpR op_le (pe_op op_mul (pe_op op_add (pv 4) pe_int) (pe_glob (v := .int (65536)) rfl Z.c_LEAST_WIDTH ⟨_, rfl⟩)) (pe_op op_add (pv 1) (pv 2)) (nomark _))
      (pss_one (ps_ret (pe_call C_fixed.G (hr.mono (by decide)) rfl C_fixed.m C_fixed.kp C_fixed.b .nil pass0 (pa_cons (pv 4) (pa_cons (pe_op op_sub (pv 3) (pe_glob (v := .int (16)) rfl Z.c_ROOT_SCALE ⟨_, rfl⟩)) pa_nil)))))
      pss_nil)
    (pss_one (ps_ret (pe_call C_fixed.G (hr.mono (by decide)) rfl C_fixed.m C_fixed.kp C_fixed.b .nil pass0 (pa_cons (pe_un un_neg (pe_op op_fdiv (pe_un un_neg (pv 1)) (pe_glob (v := .int (32768)) rfl Z.c_HALF_WIDTH ⟨_, rfl⟩))) (pa_cons (pe_op op_add (pe_op op_sub (pv 3) (pe_glob (v := .int (16)) rfl Z.c_ROOT_SCALE ⟨_, rfl⟩)) pe_int) pa_nil)))))))), ?_⟩
  obtain ⟨q, l, r, k, rfl, hq, nd, hk, kk⟩ := h
  obtain ⟨l0, r0, r1, k0, top⟩ := nd
  have e16 : (2 : Int) ^ k.toNat = 2 ^ (k - 16).toNat * 65536 := by
    rw [show k.toNat = (k - 16).toNat + 16 by omega, Int.pow_add]; rfl
  have e15 : (2 : Int) ^ (k - 16 + 1).toNat = 2 ^ (k - 16).toNat * 2 := by
    rw [show (k - 16 + 1).toNat = (k - 16).toNat + 1 by omega, Int.pow_add]; rfl
  have c16 : ((2 ^ (k - 16).toNat : Nat) : Int) = 2 ^ (k - 16).toNat := by simp
  have c15 : ((2 ^ (k - 16 + 1).toNat : Nat) : Int) = 2 ^ (k - 16 + 1).toNat := by simp
  walk_at "r"
  refine ifd (fun h => ?_) (fun h => ?_)
  · walk_at "r"
    refine ⟨rfl, _, _, rfl, by omega, by omega, by omega, ?_, fun p H1 s1 hp h1 => kk p H1 s1 hp ?_⟩
    · refine Int.ofNat_lt.mp ?_
      first | rw [c16] | rw [c15]
      omega
    · rw [h1, endOf, if_pos h]; rfl
  · walk_at "r"
    refine ⟨rfl, _, _, rfl, by omega, by omega, by omega, ?_, fun p H1 s1 hp h1 => kk p H1 s1 hp ?_⟩
    · refine Int.ofNat_lt.mp ?_
      first | rw [c16] | rw [c15]
      omega
    · rw [h1, endOf, if_neg h, show k - 15 = k - 16 + 1 by omega]; rfl
abbrev s_law_pool : Stmt := topS 11
theorem sc_law_pool : FnScope ["_law_script", "_law_k", "_law_cell", "_law_big", "_law_mixed"] ["_law_script", "_law_k"] (defScope s_law_pool) := ⟨rfl, rfl, rfl, by decide +kernel, rfl, by decide +kernel, by decide +kernel⟩
def Ok_law_pool (P : Program) (w : World) (K : PySem.W.Frag) (mg : Str → Option Value) (base : Heap) : Prop := ∃ fA fd, Fn P w K mg base CX0 1 "_law_pool" s_law_pool fA fd ["_law_script", "_law_k"] (sp_law_pool K)
theorem okx_law_pool (Z : Zs mg) {fA : Addr} {fd : FuncData} (F : Fun K "_law_pool" "_law_pool" s_law_pool fA fd) (m : mg "_law_pool" = some (.ref fA))  : Fn P w K mg base CX0 1 "_law_pool" s_law_pool fA fd ["_law_script", "_law_k"] (sp_law_pool K) := by
  refine ⟨F.ok sc_law_pool (fun vs H Q E h => h.1) (fun cdv A outer s H vs Q E hr h => ?_), m, F.kp, F.binds fun _ _ _ _ _ _ us hl => match us, hl with | [_, _], _ => rfl, F⟩
  have hu64 := hr.units
  obtain ⟨hlen, h⟩ := h
  refine ⟨_, (pss_cons (ps_set (i := 2) sc_law_pool.nd rfl (Or.inl rfl) pe_int)
    (pss_cons (ps_if (pt_cmpR op_lt (pv 1) (pe_callB (c_len K rfl) (by rfl) Z.z_len (by decide +kernel) (pa_cons (pv 0) pa_nil)) (nomark _))
      (pss_one (ps_set (i := 2) sc_law_pool.nd rfl (Or.inl rfl) (pe_ix (i_list K rfl) (pv 0) (pv 1) (fun _ _ => rfl))))
      pss_nil)
    (pss_cons (ps_set (i := 3) sc_law_pool.nd rfl (Or.inl rfl) (pe_callB (c_max2 rfl) (by rfl) Z.z_max (by decide +kernel) (pa_cons (pe_callTy c_int1 (by rfl) Z.z_int (by decide +kernel) (pa_cons (pv 2) pa_nil)) (pa_cons (pe_callTy c_int1 (by rfl) Z.z_int (by decide +kernel) (pa_cons (pe_op op_sub (pe_un un_neg pe_int) (pv 2)) pa_nil)) pa_nil))))
    (pss_cons (ps_set (i := 4) sc_law_pool.nd rfl (Or.inl rfl) (pe_op op_mod (pe_callTy c_int1 (by rfl) Z.z_int (by decide +kernel) (pa_cons (pe_op op_mul (pe_op op_add (pe_op op_add (pe_op op_add (pe_op op_mod (pe_callTy c_int1 (by rfl) Z.z_int (by decide +kernel) (pa_cons (pv 3) pa_nil)) pe_int) (pe_op op_mul (pe_op op_mul pe_int (pv 1)) (pv 1))) (pe_op op_mul pe_int (pv 1))) pe_int) pe_int) pa_nil)) pe_int))
    (pss_one (ps_ret (pe_lst (pa_cons (pe_op op_mul (pv 3) (pe_callTy c_int1 (by rfl) Z.z_int (by decide +kernel) (pa_cons (pe_cmpR op_ge (pv 3) (pe_op op_pow pe_int pe_int) (nomark _)) pa_nil))) (pa_cons (pv 4) pa_nil))))))))), ?_⟩
  obtain ⟨s, ns, k, rfl, hS, hk0, hk, q⟩ := h
  have fin : ∀ (x y : Int), 0 ≤ y → y < 2147483647 → (∀ p, H p = none → Q (.ref p) (upd H p (.lst [.int x, .int y]))) := fun x y y0 y1 p hp =>
    q p _ ⟨(Stp.new (S := S0) (Same.refl H) hp).same, hp, x, y, upd_same, y0, y1⟩
  walk_at "r"
  refine ifd (fun h => ?_) (fun h => ?_)
  · walk_at "r"
    have hl : k.toNat < ns.length := by simp at h; omega
    refine s_ixL hS (at_of (j := k.toNat) (by omega) (get_int hl)) ?_
    walk_at "r"
    exact ⟨sz (by simp), fin _ _ (Int.emod_nonneg _ (by decide)) (Int.emod_lt_of_pos _ (by decide))⟩
  · walk_at "r"
    exact ⟨sz (by simp), fin _ _ (Int.emod_nonneg _ (by decide)) (Int.emod_lt_of_pos _ (by decide))⟩
abbrev s_law_take : Stmt := topS 12
theorem sc_law_take : FnScope ["_law_source", "_law_most", "_law_drawn"] ["_law_source", "_law_most"] (defScope s_law_take) := ⟨rfl, rfl, rfl, by decide +kernel, rfl, by decide +kernel, by decide +kernel⟩
def Ok_law_take (P : Program) (w : World) (K : PySem.W.Frag) (mg : Str → Option Value) (base : Heap) : Prop := ∃ fA fd, Fn P w K mg base CX0 1 "_law_take" s_law_take fA fd ["_law_source", "_law_most"] (sp_law_take K)
theorem okx_law_take (Z : Zs mg) {fA : Addr} {fd : FuncData} (F : Fun K "_law_take" "_law_take" s_law_take fA fd) (m : mg "_law_take" = some (.ref fA))  : Fn P w K mg base CX0 1 "_law_take" s_law_take fA fd ["_law_source", "_law_most"] (sp_law_take K) := by
  refine ⟨F.ok sc_law_take (fun vs H Q E h => h.1) (fun cdv A outer s H vs Q E hr h => ?_), m, F.kp, F.binds fun _ _ _ _ _ _ us hl => match us, hl with | [_, _], _ => rfl, F⟩
  have hu64 := hr.units
  obtain ⟨hlen, h⟩ := h
  refine ⟨_, (pss_cons (ps_if (pt_cmpR op_gt (pe_ix (i_list K rfl) (pv 0) pe_int (fun _ _ => rfl)) pe_int (nomark _))
      (pss_cons (ps_set (i := 2) sc_law_take.nd rfl (Or.inl rfl) (pe_op op_mod (pe_callTy c_int1 (by rfl) Z.z_int (by decide +kernel) (pa_cons (pe_ix (i_list K rfl) (pv 0) pe_int (fun _ _ => rfl)) pa_nil)) (pv 1)))
    (pss_cons (ps_asg (pe_op op_fdiv (pe_ix (i_list K rfl) (pv 0) pe_int (fun _ _ => rfl)) (pv 1)) (pg_sub (pv 0) pe_int set_list))
    (pss_one (ps_ret (pv 2)))))
      pss_nil)
    (pss_cons (ps_asg (pe_op op_mod (pe_callTy c_int1 (by rfl) Z.z_int (by decide +kernel) (pa_cons (pe_op op_add (pe_op op_mul (pe_ix (i_list K rfl) (pv 0) pe_int (fun _ _ => rfl)) pe_int) pe_int) pa_nil)) pe_int) (pg_sub (pv 0) pe_int set_list))
    (pss_one (ps_ret (pe_op op_mod (pe_callTy c_int1 (by rfl) Z.z_int (by decide +kernel) (pa_cons (pe_op op_fdiv (pe_op op_mod (pe_callTy c_int1 (by rfl) Z.z_int (by decide +kernel) (pa_cons (pe_op op_mul (pe_ix (i_list K rfl) (pv 0) pe_int (fun _ _ => rfl)) (pe_ix (i_list K rfl) (pv 0) pe_int (fun _ _ => rfl))) pa_nil)) pe_int) pe_int) pa_nil)) (pv 1)))))), ?_⟩
  obtain ⟨F0, p, t, rfl, hs, ht, ht2, q⟩ := h
  obtain ⟨hs0, hp0, a, b, hp, hb0, hb1⟩ := id hs
  have st : ∀ o, Stp (S1 p) F0 H F0 (upd H p o) := fun o => Stp.wr hs0 rfl hp0
  walk_at "r"
  refine ifd (fun h => ?_) (fun h => ?_)
  · walk_at "r"
    exact q _ _ (hs.wr hb0 hb1) (st _) (Int.emod_nonneg _ (by omega)) (Int.emod_lt_of_pos _ ht)
  · walk_at "r"
    exact q _ _ (hs.wr (Int.emod_nonneg _ (by decide)) (Int.emod_lt_of_pos _ (by decide))) (st _) (Int.emod_nonneg _ (by omega)) (Int.emod_lt_of_pos _ ht)
abbrev s_law_one : Stmt := topS 13
theorem sc_law_one : FnScope ["_law_source", "_law_things"] ["_law_source", "_law_things"] (defScope s_law_one) := ⟨rfl, rfl, rfl, by decide +kernel, rfl, by decide +kernel, by decide +kernel⟩
def Ok_law_one (P : Program) (w : World) (K : PySem.W.Frag) (mg : Str → Option Value) (base : Heap) : Prop := ∃ fA fd, Fn P w K mg base CX0 2 "_law_one" s_law_one fA fd ["_law_source", "_law_things"] (sp_law_one K)
theorem okx_law_one (Z : Zs mg) {fA : Addr} {fd : FuncData} (F : Fun K "_law_one" "_law_one" s_law_one fA fd) (m : mg "_law_one" = some (.ref fA)) (C_law_take : Ok_law_take P w K mg base) : Fn P w K mg base CX0 2 "_law_one" s_law_one fA fd ["_law_source", "_law_things"] (sp_law_one K) := by
  obtain ⟨_, _, C_law_take⟩ := C_law_take
  refine ⟨F.ok sc_law_one (fun vs H Q E h => h.1) (fun cdv A outer s H vs Q E hr h => ?_), m, F.kp, F.binds fun _ _ _ _ _ _ us hl => match us, hl with | [_, _], _ => rfl, F⟩
  have hu64 := hr.units
  obtain ⟨hlen, h⟩ := h
  refine ⟨_, (pss_one (ps_ret (pe_ix (i_list K rfl) (pv 1) (pe_call C_law_take.G (hr.mono (by decide)) rfl C_law_take.m C_law_take.kp C_law_take.b .nil pass0 (pa_cons (pv 0) (pa_cons (pe_callB (c_len K rfl) (by rfl) Z.z_len (by decide +kernel) (pa_cons (pv 1) pa_nil)) pa_nil))) (fun _ _ => rfl)))), ?_⟩
  obtain ⟨F0, p, a, ns, rfl, hs, hn, hn0, hn1, q⟩ := h
  have ha := hs.1.seq hn
  walk_at "r"
  refine ⟨rfl, F0, p, _, rfl, hs, ?_, ?_, fun r H1 s1 st1 r0 r1 => ?_⟩
  · simp; omega
  · simp; omega
  walk_at "r"
  have hl : r.toNat < ns.length := by simp at r1; omega
  exact s_ixL (s1.1.seq hn) (at_of (j := r.toNat) (by omega) (get_int hl)) (q _ _ s1 st1 (List.getElem_mem hl))
abbrev s_law_node : Stmt := topS 14
theorem sc_law_node : FnScope ["_law_source", "_law_scale", "_law_some", "_law_width", "_law_room", "_law_halves"] ["_law_source"] (defScope s_law_node) := ⟨rfl, rfl, rfl, by decide +kernel, rfl, by decide +kernel, by decide +kernel⟩
def Ok_law_node (P : Program) (w : World) (K : PySem.W.Frag) (mg : Str → Option Value) (base : Heap) : Prop := ∃ fA fd, Fn P w K mg base CX0 3 "_law_node" s_law_node fA fd ["_law_source"] (sp_law_node K)
theorem okx_law_node (Z : Zs mg) {fA : Addr} {fd : FuncData} (F : Fun K "_law_node" "_law_node" s_law_node fA fd) (m : mg "_law_node" = some (.ref fA)) (C_law_one : Ok_law_one P w K mg base) (C_law_take : Ok_law_take P w K mg base) : Fn P w K mg base CX0 3 "_law_node" s_law_node fA fd ["_law_source"] (sp_law_node K) := by
  obtain ⟨_, _, C_law_one⟩ := C_law_one
  obtain ⟨_, _, C_law_take⟩ := C_law_take
  refine ⟨F.ok sc_law_node (fun vs H Q E h => h.1) (fun cdv A outer s H vs Q E hr h => ?_), m, F.kp, F.binds fun _ _ _ _ _ _ us hl => match us, hl with | [_], _ => rfl, F⟩
  have hu64 := hr.units
  obtain ⟨hlen, h⟩ := h
  refine ⟨_, (pss_cons (ps_set (i := 1) sc_law_node.nd rfl (Or.inl rfl) (pe_op op_add pe_int (pe_call C_law_take.G (hr.mono (by decide)) rfl C_law_take.m C_law_take.kp C_law_take.b .nil pass0 (pa_cons (pv 0) (pa_cons pe_int pa_nil)))))
    (pss_cons (ps_if (pt_cmpR op_eq (pv 1) pe_int (nomark _))
      (pss_one (ps_ret (pe_tup (pa_cons pe_int (pa_cons pe_int (pa_cons pe_int pa_nil))))))
      pss_nil)
    (pss_cons (ps_set (i := 2) sc_law_node.nd rfl (Or.inl rfl) (pe_lst (pa_cons (pe_call C_law_take.G (hr.mono (by decide)) rfl C_law_take.m C_law_take.kp C_law_take.b .nil pass0 (pa_cons (pv 0) (pa_cons pe_int pa_nil))) (pa_cons (pe_call C_law_take.G (hr.mono (by decide)) rfl C_law_take.m C_law_take.kp C_law_take.b .nil pass0 (pa_cons (pv 0) (pa_cons pe_int pa_nil))) pa_nil))))
    (pss_cons (ps_set (i := 3) sc_law_node.nd rfl (Or.inl rfl) (pe_op op_add pe_int (pe_call C_law_one.G (hr.mono (by decide)) rfl C_law_one.m C_law_one.kp C_law_one.b .nil pass0 (pa_cons (pv 0) (pa_cons (pe_op op_cat (pv 2) (pe_lst (pa_cons pe_int (pa_cons pe_int (pa_cons pe_int (pa_cons pe_int (pa_cons pe_int (pa_cons pe_int pa_nil)))))))) pa_nil)))))
    (pss_cons (ps_set (i := 4) sc_law_node.nd rfl (Or.inl rfl) (pe_op op_sub (pe_op op_shl pe_int (pv 1)) (pv 3)))
    (pss_cons (ps_set (i := 5) sc_law_node.nd rfl (Or.inl rfl) (pe_op op_add (pe_op op_mul pe_int (pe_call C_law_take.G (hr.mono (by decide)) rfl C_law_take.m C_law_take.kp C_law_take.b .nil pass0 (pa_cons (pv 0) (pa_cons (pe_op op_add (pe_op op_fdiv (pv 4) pe_int) pe_int) pa_nil)))) (pe_call C_law_one.G (hr.mono (by decide)) rfl C_law_one.m C_law_one.kp C_law_one.b .nil pass0 (pa_cons (pv 0) (pa_cons (pe_lst (pa_cons pe_int (pa_cons pe_int (pa_cons pe_int (pa_cons (pe_un un_neg pe_int) (pa_cons pe_int pa_nil)))))) pa_nil)))))
    (pss_one (ps_ret (pe_tup (pa_cons (pe_call C_law_one.G (hr.mono (by decide)) rfl C_law_one.m C_law_one.kp C_law_one.b .nil pass0 (pa_cons (pv 0) (pa_cons (pe_lst (pa_cons (pe_call C_law_take.G (hr.mono (by decide)) rfl C_law_take.m C_law_take.kp C_law_take.b .nil pass0 (pa_cons (pv 0) (pa_cons (pe_op op_add (pv 4) pe_int) pa_nil))) (pa_cons (pe_callB (c_max2 rfl) (by rfl) Z.z_max (by decide +kernel) (pa_cons pe_int (pa_cons (pe_callB (c_min2 rfl) (by rfl) Z.z_min (by decide +kernel) (pa_cons (pv 4) (pa_cons (pv 5) pa_nil))) pa_nil))) (pa_cons (pv 4) pa_nil)))) pa_nil))) (pa_cons (pv 3) (pa_cons (pv 1) pa_nil)))))))))))), ?_⟩
  obtain ⟨F0, p, rfl, hs, q⟩ := h
  walk_at "r"
  refine ⟨rfl, F0, p, _, rfl, hs, by decide, by decide, fun r1 H1 s1 _ r10 r11 => ?_⟩
  walk_at "r"
  refine ifd (fun h => ?_) (fun h => ?_)
  · walk_at "r"
    refine ⟨sz (by simp), fun a ha => q a 0 65536 16 _ ?_ upd_same ⟨by decide, by decide, by decide, by decide, by decide⟩ (by decide)⟩
    exact s1.1.trans (Stp.new (S := S0) (Same.refl H1) ha).same
  walk_at "r"
  refine ⟨rfl, F0, p, _, rfl, s1, by decide, by decide, fun r2 H2 s2 _ r20 r21 => ?_⟩
  walk_at "r"
  refine ⟨rfl, F0, p, _, rfl, s2, by decide, by decide, fun r3 H3 s3 _ r30 r31 => ?_⟩
  walk_at "r"
  refine ⟨sz (by simp), fun a ha => ?_⟩
  have s4 := s3.new (o := .lst [.int r2, .int r3]) ha
  walk_at "r"
  refine ⟨sz (by simp), fun b hb => ?_⟩
  have s5 := s4.new (o := .lst [.int 0, .int 1, .int 32767, .int 32768, .int 32769, .int 65535]) hb
  have nab : a ≠ b := ne_of_none upd_same hb
  refine ⟨_, _, _, _, rfl, rfl, (by rw [upd_ne nab]; exact upd_same), upd_same, sz (by simp), fun c hc => ?_⟩
  have s6 := s5.new (o := .lst ([.int r2, .int r3] ++ [.int 0, .int 1, .int 32767, .int 32768, .int 32769, .int 65535])) hc
  walk_at "r"
  refine ⟨rfl, _, p, c, [r2, r3, 0, 1, 32767, 32768, 32769, 65535], rfl, s6, SqL.of upd_same, by simp, by simp, fun r4 H4 s7 _ m4 => ?_⟩
  have b4 : 0 ≤ r4 ∧ r4 ≤ 65535 := by simp at m4; omega
  walk_at "r"
  have pw : (131072 : Int) ≤ 2 ^ (16 + r1).toNat ∧ (2 : Int) ^ (16 + r1).toNat ≤ 2097152 := by
    rcases (by omega : r1 = 1 ∨ r1 = 2 ∨ r1 = 3 ∨ r1 = 4 ∨ r1 = 5) with rfl | rfl | rfl | rfl | rfl <;> decide
  refine ⟨rfl, _, p, _, rfl, s7, by omega, by omega, fun r5 H5 s8 _ r50 r51 => ?_⟩
  walk_at "r"
  refine ⟨sz (by simp), fun d hd => ?_⟩
  have s9 := s8.new (o := .lst [.int 0, .int 0, .int 1, .int (-1), .int 16384]) hd
  refine ⟨rfl, _, p, d, [0, 0, 1, -1, 16384], rfl, s9, SqL.of upd_same, by simp, by simp, fun r6 H6 s10 _ m6 => ?_⟩
  walk_at "r"
  refine ⟨rfl, _, p, _, rfl, s10, by omega, by omega, fun r7 H7 s11 _ r70 r71 => ?_⟩
  walk_at "r"
  refine ⟨sz (by simp), fun e he => ?_⟩
  have s12 := s11.new (o := .lst [.int r7, .int (if (if 32768 * r5 + r6 < 1 * 2 ^ (16 + r1).toNat - (65536 + r4) then 32768 * r5 + r6 else 1 * 2 ^ (16 + r1).toNat - (65536 + r4)) > 0 then (if 32768 * r5 + r6 < 1 * 2 ^ (16 + r1).toNat - (65536 + r4) then 32768 * r5 + r6 else 1 * 2 ^ (16 + r1).toNat - (65536 + r4)) else 0), .int (1 * 2 ^ (16 + r1).toNat - (65536 + r4))]) he
  refine ⟨rfl, _, p, e, [_, _, _], rfl, s12, SqL.of upd_same, by simp, by simp, fun r8 H8 s13 _ m8 => ?_⟩
  have b8 : 0 ≤ r8 ∧ r8 ≤ 2 ^ (16 + r1).toNat - (65536 + r4) := by
    simp at m8
    rcases m8 with rfl | rfl | rfl
    · omega
    · split <;> split <;> omega
    · omega
  walk_at "r"
  refine ⟨sz (by simp), fun f hf => q f r8 (65536 + r4) (16 + r1) _ ?_ upd_same ⟨by omega, by omega, by omega, by omega, by omega⟩ (by omega)⟩
  refine Same.trans ?_ (Stp.new (S := S0) (Same.refl H8) hf).same
  have t := s13.weak (Stp.new (S := S0) s11.1 he).ff
  have t := t.weak (Stp.new (S := S0) s8.1 hd).ff
  have t := t.weak (Stp.new (S := S0) s5.1 hc).ff
  have t := t.weak (Stp.new (S := S0) s4.1 hb).ff
  have t := t.weak (Stp.new (S := S0) s3.1 ha).ff
  exact t.1
abbrev s_law_lies_within : Stmt := topS 15
theorem sc_law_lies_within : FnScope ["_law_value", "_law_many", "_law_node_here", "_law_left", "_law_width", "_law_scale"] ["_law_value", "_law_many", "_law_node_here"] (defScope s_law_lies_within) := ⟨rfl, rfl, rfl, by decide +kernel, rfl, by decide +kernel, by decide +kernel⟩
def Ok_law_lies_within (P : Program) (w : World) (K : PySem.W.Frag) (mg : Str → Option Value) (base : Heap) : Prop := ∃ fA fd, Fn P w K mg base CX0 1 "_law_lies_within" s_law_lies_within fA fd ["_law_value", "_law_many", "_law_node_here"] (sp_law_lies_within K)
theorem okx_law_lies_within (Z : Zs mg) {fA : Addr} {fd : FuncData} (F : Fun K "_law_lies_within" "_law_lies_within" s_law_lies_within fA fd) (m : mg "_law_lies_within" = some (.ref fA))  : Fn P w K mg base CX0 1 "_law_lies_within" s_law_lies_within fA fd ["_law_value", "_law_many", "_law_node_here"] (sp_law_lies_within K) := by
  refine ⟨F.ok sc_law_lies_within (fun vs H Q E h => h.1) (fun cdv A outer s H vs Q E hr h => ?_), m, F.kp, F.binds fun _ _ _ _ _ _ us hl => match us, hl with | [_, _, _], _ => rfl, F⟩
  have hu64 := hr.units
  obtain ⟨hlen, h⟩ := h
  refine ⟨_, (pss_cons (ps_asg (pv 2) (pg_tup rfl (pgs_cons (pg_name (i := 3) sc_law_lies_within.nd rfl (Or.inl rfl)) (pgs_cons (pg_name (i := 4) sc_law_lies_within.nd rfl (Or.inl rfl)) (pgs_cons (pg_name (i := 5) sc_law_lies_within.nd rfl (Or.inl rfl)) pgs_nil)))))
    (pss_one (ps_ret (pe_and (pe_cmpR op_le (pe_op op_shl (pv 3) (pv 1)) (pe_op op_shl (pv 0) (pv 5)) (nomark _)) (pe_one (pe_cmpR op_le (pe_op op_shl (pe_op op_add (pv 0) pe_int) (pv 5)) (pe_op op_shl (pe_op op_add (pv 3) (pv 4)) (pv 1)) (nomark _))))))), ?_⟩
  obtain ⟨v, m', l, r, k, q, rfl, hq, m0, m1, k0, k1, v0, v1, l0, l1, r0, r1, kk⟩ := h
  have hw : decide (Within v m' l r k) = (decide (l * 2 ^ m'.toNat ≤ v * 2 ^ k.toNat) && decide ((v + 1) * 2 ^ k.toNat ≤ (l + r) * 2 ^ m'.toNat)) := by
    unfold Within
    by_cases h1 : l * 2 ^ m'.toNat ≤ v * 2 ^ k.toNat <;> by_cases h2 : (v + 1) * 2 ^ k.toNat ≤ (l + r) * 2 ^ m'.toNat <;> simp [h1, h2]
  rw [hw] at kk
  walk_at "r"
  refine ifd (fun h => ?_) (fun h => ?_)
  · walk_at "r"
    rw [decide_eq_true h] at kk
    exact kk
  · rw [decide_eq_false h] at kk
    exact kk
abbrev s_law_due : Stmt := topS 16
theorem sc_law_due : FnScope ["_law_node_here", "_law_many", "_law_value", "_law_at"] ["_law_node_here"] (defScope s_law_due) := ⟨rfl, rfl, rfl, by decide +kernel, rfl, by decide +kernel, by decide +kernel⟩
def Ok_law_due (P : Program) (w : World) (K : PySem.W.Frag) (mg : Str → Option Value) (base : Heap) : Prop := ∃ fA fd, Fn P w K mg base CX0 2 "_law_due" s_law_due fA fd ["_law_node_here"] (sp_law_due K)
theorem okx_law_due (Z : Zs mg) {fA : Addr} {fd : FuncData} (F : Fun K "_law_due" "_law_due" s_law_due fA fd) (m : mg "_law_due" = some (.ref fA)) (C_law_lies_within : Ok_law_lies_within P w K mg base) : Fn P w K mg base CX0 2 "_law_due" s_law_due fA fd ["_law_node_here"] (sp_law_due K) := by
  obtain ⟨_, _, C_law_lies_within⟩ := C_law_lies_within
  refine ⟨F.ok sc_law_due (fun vs H Q E h => h.1) (fun cdv A outer s H vs Q E hr h => ?_), m, F.kp, F.binds fun _ _ _ _ _ _ us hl => match us, hl with | [_], _ => rfl, F⟩
  have hu64 := hr.units
  obtain ⟨hlen, h⟩ := h
  refine ⟨_, (pss_cons (ps_for PassesOwn.never rfl (pi_range1 rfl Z.z_range (pa_cons (pe_op op_sub (pe_ix (i_tup K rfl) (pv 0) pe_int (fun _ _ => rfl)) pe_int) pa_nil)) (pg_name (i := 1) sc_law_due.nd rfl (Or.inr rfl))
      (pss_one (ps_for PassesOwn.never rfl (pi_range1 rfl Z.z_range (pa_cons (pe_op op_shl pe_int (pv 1)) pa_nil)) (pg_name (i := 2) sc_law_due.nd rfl (Or.inr rfl))
      (pss_one (ps_if (pt_val (pe_call C_law_lies_within.G (hr.mono (by decide)) rfl C_law_lies_within.m C_law_lies_within.kp C_law_lies_within.b .nil pass0 (pa_cons (pv 2) (pa_cons (pv 1) (pa_cons (pv 0) pa_nil)))))
      (pss_one (ps_ret (pe_lc (own := [("_law_at", 3)]) (g := gName 3) (tt := tYes) (by rfl) sc_law_due.nd (pi_range1 rfl Z.z_range (pa_cons (pv 1) pa_nil)) (blkOk_by (own := [("_law_at", 3)]) (N := ["_law_node_here", "_law_many", "_law_value", "_law_at"]) (sc := defScope s_law_due) (by decide +kernel)) (fun _ _ _ _ _ => (pg_name (i := 3) sc_law_due.nd rfl (Or.inl rfl))) (fun _ _ _ _ _ => pts_nil) (fun _ _ _ _ _ => (pe_op o_and1 (pe_op op_shr (pv 2) (pe_op op_sub (pe_op op_sub (pv 1) pe_int) (pv 3))) pe_int)))))
      pss_nil)))))
    (pss_one (ps_ret pe_non))), ?_⟩
  obtain ⟨q, l, r, k, rfl, hq, nd, hk, kk⟩ := h
  obtain ⟨m1, v1, hm1, hv1, hW, hlow, hmin, hend⟩ := due_target nd
  obtain ⟨l0, r0, r1, k0, top⟩ := nd
  have ktop : (2 : Int) ^ k.toNat ≤ 2097152 := by
    rcases (by omega : k = 16 ∨ k = 17 ∨ k = 18 ∨ k = 19 ∨ k = 20 ∨ k = 21) with rfl | rfl | rfl | rfl | rfl | rfl <;> decide
  walk_at "r"
  refine ⟨_, rfl, by omega, by omega, ?_⟩
  refine forR (fun i σ H' => ∃ w1 w2 w3, σ = [some (.ref q), w1, w2, w3] ∧ H = H' ∧ i ≤ m1) ⟨_, _, _, rfl, rfl, Nat.zero_le _⟩ ?_ ?_
  · rintro i σ H' hi ⟨w1, w2, w3, rfl, rfl, him⟩
    walk_at "r"
    have hi6 : i ≤ 6 := by omega
    have c2 : ((2 ^ i : Nat) : Int) = 2 ^ i := by simp
    have i0 : (0 + (i : Int)).toNat = i := by omega
    have i2 : (2 : Int) ^ i ≤ 64 := by
      rcases (by omega : i = 0 ∨ i = 1 ∨ i = 2 ∨ i = 3 ∨ i = 4 ∨ i = 5 ∨ i = 6) with rfl | rfl | rfl | rfl | rfl | rfl | rfl <;> decide
    have i3 : (0 : Int) < 2 ^ i := Int.pow_pos (by decide)
    rw [i0]
    refine ⟨_, rfl, by omega, by omega, ?_⟩
    refine forR (fun j σ H' => ∃ w2 w3, σ = [some (.ref q), some (.int (0 + (i : Int))), w2, w3] ∧ H = H' ∧ (i < m1 ∨ (i = m1 ∧ j ≤ v1))) ⟨_, _, rfl, rfl, by omega⟩ ?_ ?_
    · rintro j σ H' hj ⟨w2, w3, rfl, rfl, hij⟩
      walk_at "r"
      refine ⟨rfl, _, _, l, r, k, q, rfl, hq, by omega, by omega, by omega, by omega, by omega, by omega, by omega, by omega, by omega, by omega, ?_⟩
      walk_at "r"
      refine ifd (fun h => ?_) (fun h => ?_)
      · have e1 : i = m1 := by
          refine Decidable.byContradiction fun z => hlow i (0 + (j : Int)) (by omega) ?_
          rw [show (i : Int) = 0 + (i : Int) by omega]; exact h
        subst e1
        have e2 : j = v1 := by
          refine Decidable.byContradiction fun z => hmin (0 + (j : Int)) (by omega) ?_
          rw [show (i : Int) = 0 + (i : Int) by omega]; exact h
        subst e2
        walk_at "r"
        refine ⟨_, rfl, by omega, by omega, ?_⟩
        refine lcW walk_range S0 (Same.refl H) (fun _ z => z.elim) (fun _ _ _ => trivial) (fun t acc F1 H1 => acc = ((fixL i j).map V.int).take t) (fun _ _ _ _ _ _ _ _ _ r => r) rfl ?_ ?_
        · rintro t x acc d F1 H1 H2 ht ⟨rfl, rfl⟩ hd nS st f0 e hl rr
          have hti : t < i := by omega
          walk_at "r"
          refine ⟨rfl, ?_⟩
          refine lc_end hd nS st f0 e hl (by omega) (.rfl' st.fh) ?_
          have hi2 : t < ((fixL i j).map V.int).length := by simp [fixL_len]; omega
          rw [rr, List.take_succ_eq_append_getElem hi2]
          congr 2
          have q2 : ((fixL i j).map V.int)[t]? = some (V.int ((j / 2 ^ (i - 1 - t) % 2 : Nat) : Int)) := by rw [List.getElem?_map, fixL_at _ _ _ hti]; rfl
          rw [List.getElem?_eq_getElem hi2] at q2
          rw [Option.some.inj q2, show (0 + (i : Int) - 1 - (0 + (t : Int))).toNat = i - 1 - t by omega]
          simp
        · intro d acc F0 F1 H1 st hd f0 ef st1 hl rr
          refine kk d H1 st.same hd ?_
          rw [ef] at st1
          rw [st1.fh _ _ upd_same, rr, hend, i0, List.take_of_length_le (by simp [fixL_len])]
      · walk_at "r"
        refine ⟨_, _, rfl, rfl, ?_⟩
        rcases hij with z | ⟨rfl, z⟩
        · exact .inl z
        · refine .inr ⟨rfl, Nat.lt_of_le_of_ne z fun e => h ?_⟩
          subst e
          rw [show 0 + (i : Int) = (i : Int) by omega, show 0 + (j : Int) = (j : Int) by omega]
          exact hW
    · rintro σ H' ⟨w2, w3, rfl, rfl, hij⟩
      refine ⟨_, _, _, rfl, rfl, ?_⟩
      rcases hij with z | ⟨rfl, z⟩
      · exact z
      · have hh : (v1 : Int) < 2 ^ i := by rw [← c2]; exact Int.ofNat_lt.mpr hv1
        omega
  · rintro σ H' ⟨w1, w2, w3, rfl, rfl, him⟩
    omega
abbrev s_law : Stmt := topS 17
theorem sc_law : FnScope ["_law_script", "_law_k", "_law_source", "_law_node_here", "_law_told", "_law_one_here"] ["_law_script"] (defScope s_law) := ⟨rfl, rfl, rfl, by decide +kernel, rfl, by decide +kernel, by decide +kernel⟩
def Ok_law (P : Program) (w : World) (K : PySem.W.Frag) (mg : Str → Option Value) (base : Heap) : Prop := ∃ fA fd, Fn P w K mg base CX0 4 "law" s_law fA fd ["_law_script"] (sp_law K)
theorem okx_law (Z : Zs mg) {fA : Addr} {fd : FuncData} (F : Fun K "law" "law" s_law fA fd) (m : mg "law" = some (.ref fA)) (C_end_of : Ok_end_of P w K mg base) (C_law_due : Ok_law_due P w K mg base) (C_law_node : Ok_law_node P w K mg base) (C_law_pool : Ok_law_pool P w K mg base) : Fn P w K mg base CX0 4 "law" s_law fA fd ["_law_script"] (sp_law K) := by
  obtain ⟨_, _, C_end_of⟩ := C_end_of
  obtain ⟨_, _, C_law_due⟩ := C_law_due
  obtain ⟨_, _, C_law_node⟩ := C_law_node
  obtain ⟨_, _, C_law_pool⟩ := C_law_pool
  refine ⟨F.ok sc_law (fun vs H Q E h => h.1) (fun cdv A outer s H vs Q E hr h => ?_), m, F.kp, F.binds fun _ _ _ _ _ _ us hl => match us, hl with | [_], _ => rfl, F⟩
  have hu64 := hr.units
  obtain ⟨hlen, h⟩ := h
  refine ⟨_, (pss_cons (ps_for PassesOwn.never rfl (pi_range1 rfl Z.z_range (pa_cons (pe_callB (c_max2 rfl) (by rfl) Z.z_max (by decide +kernel) (pa_cons pe_int (pa_cons (pe_callB (c_min2 rfl) (by rfl) Z.z_min (by decide +kernel) (pa_cons (pe_callB (c_len K rfl) (by rfl) Z.z_len (by decide +kernel) (pa_cons (pv 0) pa_nil)) (pa_cons pe_int pa_nil))) pa_nil))) pa_nil)) (pg_name (i := 1) sc_law.nd rfl (Or.inl rfl))
      (pss_cons (ps_set (i := 2) sc_law.nd rfl (Or.inl rfl) (pe_call C_law_pool.G (hr.mono (by decide)) rfl C_law_pool.m C_law_pool.kp C_law_pool.b .nil pass0 (pa_cons (pv 0) (pa_cons (pv 1) pa_nil))))
    (pss_cons (ps_set (i := 3) sc_law.nd rfl (Or.inl rfl) (pe_call C_law_node.G (hr.mono (by decide)) rfl C_law_node.m C_law_node.kp C_law_node.b .nil pass0 (pa_cons (pv 2) pa_nil)))
    (pss_cons (ps_set (i := 4) sc_law.nd rfl (Or.inl rfl) (pe_call C_end_of.G (hr.mono (by decide)) rfl C_end_of.m C_end_of.kp C_end_of.b .nil pass0 (pa_cons (pv 3) pa_nil)))
    (pss_cons (ps_if (PW.pt (pw_or (pt_cmpR (o_neD K rfl hu64) (pv 4) (pe_call C_law_due.G (hr.mono (by decide)) rfl C_law_due.m C_law_due.kp C_law_due.b .nil pass0 (pa_cons (pv 3) pa_nil)) (nomark _)) (pw_or (pt_not (pt_val (pe_callB (c_isi K rfl) (by rfl) Z.z_isinstance (by decide +kernel) (pa_cons (pv 4) (pa_cons (pe_bltn (v := .ty "list") (by rfl) Z.z_list (by decide +kernel) rfl) pa_nil))))) (pw_or1 (pt_cmpR (o_neD K rfl hu64) (pe_lc (own := [("_law_one_here", 5)]) (g := gName 5) (tt := _) (by rfl) sc_law.nd (pi_list (pv 4)) (blkOk_by (own := [("_law_one_here", 5)]) (N := ["_law_script", "_law_k", "_law_source", "_law_node_here", "_law_told", "_law_one_here"]) (sc := defScope s_law) (by decide +kernel)) (fun _ _ _ _ _ => (pg_name (i := 5) sc_law.nd rfl (Or.inl rfl))) (fun _ _ _ _ _ => pts_one (pt_val (pe_callB (c_isi K rfl) (by rfl) Z.z_isinstance (by decide +kernel) (pa_cons (pv 5) (pa_cons (pe_bltn (v := .ty "bool") (by rfl) Z.z_bool (by decide +kernel) rfl) pa_nil))))) (fun _ _ _ _ _ => (pv 5))) (pe_lst pa_nil) (nomark _))))))
      (pss_one (ps_ret pe_bl))
      pss_nil)
    (pss_one (ps_if (pt_cmpR (o_neD K rfl hu64) (pe_callK0 C_end_of.G (hr.mono (by decide)) rfl C_end_of.m C_end_of.kp (C_end_of.F.kbinds 0 ["node"] (by decide) (fun _ _ _ _ _ _ us ws hu hw => match us, ws, hu, hw with | [], [_], _, _ => rfl)) pass0 (pk_cons (pv 3) pk_nil)) (pv 4) (nomark _))
      (pss_one (ps_ret pe_bl))
      pss_nil)))))))
    (pss_one (ps_ret (pe_and (pe_cmpR (o_eqD K rfl hu64) (pe_call C_end_of.G (hr.mono (by decide)) rfl C_end_of.m C_end_of.kp C_end_of.b .nil pass0 (pa_cons (pe_tup (pa_cons pe_int (pa_cons pe_int (pa_cons pe_int pa_nil)))) pa_nil)) (pe_lst pa_nil) (nomark _)) (pe_one (pe_cmpR (o_eqD K rfl hu64) (pe_call C_end_of.G (hr.mono (by decide)) rfl C_end_of.m C_end_of.kp C_end_of.b .nil pass0 (pa_cons (pe_tup (pa_cons pe_int (pa_cons pe_int (pa_cons pe_int pa_nil)))) pa_nil)) (pe_lst (pa_cons pe_int (pa_cons pe_int (pa_cons pe_int (pa_cons pe_int (pa_cons pe_int (pa_cons pe_int pa_nil))))))) (nomark _))))))), ?_⟩
  obtain ⟨sc, ns, rfl, hS, hl, q⟩ := h
  have n16 : Node 0 65536 16 := ⟨by decide, by decide, by decide, by decide, by decide⟩
  have n21 : Node 489328 69904 21 := ⟨by decide, by decide, by decide, by decide, by decide⟩
  walk_at "r"
  refine ⟨_, rfl, by split <;> omega, by split <;> omega, ?_⟩
  refine forR (fun i σ H' => ∃ v1 v2 v3 v4 v5, σ = [some (.ref sc), v1, v2, v3, v4, v5] ∧ Same H H') ⟨_, _, _, _, _, rfl, Same.refl H⟩ ?_ ?_
  · rintro i σ H1 hi ⟨v1, v2, v3, v4, v5, rfl, e1⟩
    walk_at "r"
    refine ⟨rfl, sc, ns, _, rfl, e1.seq hS, by omega, ?_, fun p H2 s2 => ?_⟩
    · have : i < 11 := Nat.lt_of_lt_of_le hi (by split <;> omega)
      omega
    walk_at "r"
    refine ⟨rfl, H1, p, rfl, s2, fun nq l r k H3 e3 hq nd hk => ?_⟩
    walk_at "r"
    refine ⟨rfl, nq, l, r, k, rfl, hq, nd, by omega, fun t H4 e4 t0 ht => ?_⟩
    walk_at "r"
    refine ⟨rfl, nq, l, r, k, rfl, e4 _ _ hq, nd, hk, fun u H5 e5 u0 hu => ?_⟩
    refine s_neL (SqL.of (e5 _ _ ht)) (SqL.of hu) ?_
    walk_at "r"
    refine ifn (fun _ => ?_) (fun h => absurd rfl h)
    walk_at "r"
    refine s_isi (b := true) (.base (.lst (e5 _ _ ht))) (by decide +kernel) ?_
    walk_at "r"
    refine ⟨_, rfl, ⟨_, SqL.of (e5 _ _ ht)⟩, ?_⟩
    refine lcW walk_list S0 (Same.refl H5) (fun _ z => z.elim) (fun F6 H6 st => st.same.seq (SqL.of (e5 _ _ ht))) (fun i acc F6 H6 => acc = []) (fun _ _ _ _ _ _ _ _ _ r => r) rfl ?_ ?_
    · rintro j x acc d F6 H6 H7 hj ⟨rfl, hx⟩ hd nS st f0 e hl rr
      rw [List.getElem?_map] at hx
      obtain ⟨b, hb⟩ : ∃ b, x = V.int b := by
        cases z : (endOf l r k)[j]? with
        | none => rw [z] at hx; cases hx
        | some b => rw [z] at hx; exact ⟨b, (Option.some.inj hx).symm⟩
      subst hb
      walk_at "r"
      refine s_isi (b := false) (.base (.int b)) (by decide +kernel) ?_
      walk_at "r"
      exact lc_skip hd nS st f0 e hl (.rfl' st.fh) rr
    · intro d acc F6 F7 H6 st hd f0 ef st1 hl rr
      subst rr
      have hd6 : H6 d = some (.lst []) := by rw [ef] at st1; exact st1.fh _ _ upd_same
      walk_at "r"
      refine ⟨sz (by simp), fun c hc => ?_⟩
      have s7 := Stp.new (S := S0) (o := .lst []) (Same.refl H6) hc
      refine s_neL (ns := []) (ms := []) (SqL.of (s7.same _ _ hd6)) (SqL.of upd_same) ?_
      walk_at "r"
      refine ifn (fun _ => ?_) (fun h => absurd rfl h)
      walk_at "r"
      have e7 := st.same.trans s7.same
      refine ⟨rfl, nq, l, r, k, rfl, e7 _ _ (e5 _ _ (e4 _ _ hq)), nd, by omega, fun u2 H8 e8 u0 hu2 => ?_⟩
      walk_at "r"
      refine s_neL (SqL.of hu2) (SqL.of (e8 _ _ (e7 _ _ (e5 _ _ ht)))) ?_
      walk_at "r"
      refine ifn (fun _ => ?_) (fun h => absurd rfl h)
      walk_at "r"
      exact ⟨_, _, _, _, _, rfl, (((((e1.trans e3).trans e4).trans e5).trans e7).trans e8)⟩
  · rintro σ H1 ⟨v1, v2, v3, v4, v5, rfl, e1⟩
    walk_at "r"
    refine ⟨sz (by simp), fun a ha => ?_⟩
    refine ⟨rfl, a, _, _, _, rfl, upd_same, n16, by decide, fun t H4 e4 t0 ht => ?_⟩
    walk_at "r"
    refine ⟨sz (by simp), fun c hc => ?_⟩
    refine s_eqL (ms := []) (SqL.of ((Stp.new (S := S0) (Same.refl H4) hc).same _ _ ht)) (SqL.of upd_same) ?_
    walk_at "r"
    refine ifd (fun _ => ?_) (fun h => absurd (by decide) h)
    walk_at "r"
    refine ⟨sz (by simp), fun a2 ha2 => ?_⟩
    refine ⟨rfl, a2, _, _, _, rfl, upd_same, n21, by decide, fun t2 H5 e5 t0 ht2 => ?_⟩
    walk_at "r"
    refine ⟨sz (by simp), fun c2 hc2 => ?_⟩
    refine s_eqL (ms := [0, 0, 1, 1, 1, 1]) (SqL.of ((Stp.new (S := S0) (Same.refl H5) hc2).same _ _ ht2)) (SqL.of upd_same) ?_
    rw [show decide (endOf 489328 69904 21 = [0, 0, 1, 1, 1, 1]) = true by decide]
    exact q _
end
theorem all_mk {l : PySem.W.OpenLaw} {w : World} {K : PySem.W.Frag} {h : Heap} {mg : Str → Option Value} {fa : Addr} (X : K.In h) (G : h.Ns mainGlobals mg) (hfa : mg "law" = some (.ref fa))
    {f0 : Addr} {od0 an0 : Option Addr} {sl0 : Array (Option Value)} {oc0 kV0 dc0 pm0 cd0 ct0 : Value}
    (a0 : PySem.W.nsIn K mainGlobals "fixed" = some (some (.ref f0))) (l0 : K.lookup f0 = some ⟨oc0, od0, .func (PySem.W.fnOf "fixed" "fixed" (defArgs s_fixed) (defBody s_fixed) (defScope s_fixed) .none kV0 dc0 pm0 an0 cd0 ct0), sl0⟩) (c0 : PySem.W.codeIn K cd0 "fixed" = true) (k0 : PySem.W.keepIn K (.ref f0) = true)
    {f1 : Addr} {od1 an1 : Option Addr} {sl1 : Array (Option Value)} {oc1 kV1 dc1 pm1 cd1 ct1 : Value}
    (a1 : PySem.W.nsIn K mainGlobals "end_of" = some (some (.ref f1))) (l1 : K.lookup f1 = some ⟨oc1, od1, .func (PySem.W.fnOf "end_of" "end_of" (defArgs s_end_of) (defBody s_end_of) (defScope s_end_of) .none kV1 dc1 pm1 an1 cd1 ct1), sl1⟩) (c1 : PySem.W.codeIn K cd1 "end_of" = true) (k1 : PySem.W.keepIn K (.ref f1) = true)
    {f2 : Addr} {od2 an2 : Option Addr} {sl2 : Array (Option Value)} {oc2 kV2 dc2 pm2 cd2 ct2 : Value}
    (a2 : PySem.W.nsIn K mainGlobals "_law_pool" = some (some (.ref f2))) (l2 : K.lookup f2 = some ⟨oc2, od2, .func (PySem.W.fnOf "_law_pool" "_law_pool" (defArgs s_law_pool) (defBody s_law_pool) (defScope s_law_pool) .none kV2 dc2 pm2 an2 cd2 ct2), sl2⟩) (c2 : PySem.W.codeIn K cd2 "_law_pool" = true) (k2 : PySem.W.keepIn K (.ref f2) = true)
    {f3 : Addr} {od3 an3 : Option Addr} {sl3 : Array (Option Value)} {oc3 kV3 dc3 pm3 cd3 ct3 : Value}
    (a3 : PySem.W.nsIn K mainGlobals "_law_take" = some (some (.ref f3))) (l3 : K.lookup f3 = some ⟨oc3, od3, .func (PySem.W.fnOf "_law_take" "_law_take" (defArgs s_law_take) (defBody s_law_take) (defScope s_law_take) .none kV3 dc3 pm3 an3 cd3 ct3), sl3⟩) (c3 : PySem.W.codeIn K cd3 "_law_take" = true) (k3 : PySem.W.keepIn K (.ref f3) = true)
    {f4 : Addr} {od4 an4 : Option Addr} {sl4 : Array (Option Value)} {oc4 kV4 dc4 pm4 cd4 ct4 : Value}
    (a4 : PySem.W.nsIn K mainGlobals "_law_one" = some (some (.ref f4))) (l4 : K.lookup f4 = some ⟨oc4, od4, .func (PySem.W.fnOf "_law_one" "_law_one" (defArgs s_law_one) (defBody s_law_one) (defScope s_law_one) .none kV4 dc4 pm4 an4 cd4 ct4), sl4⟩) (c4 : PySem.W.codeIn K cd4 "_law_one" = true) (k4 : PySem.W.keepIn K (.ref f4) = true)
    {f5 : Addr} {od5 an5 : Option Addr} {sl5 : Array (Option Value)} {oc5 kV5 dc5 pm5 cd5 ct5 : Value}
    (a5 : PySem.W.nsIn K mainGlobals "_law_node" = some (some (.ref f5))) (l5 : K.lookup f5 = some ⟨oc5, od5, .func (PySem.W.fnOf "_law_node" "_law_node" (defArgs s_law_node) (defBody s_law_node) (defScope s_law_node) .none kV5 dc5 pm5 an5 cd5 ct5), sl5⟩) (c5 : PySem.W.codeIn K cd5 "_law_node" = true) (k5 : PySem.W.keepIn K (.ref f5) = true)
    {f6 : Addr} {od6 an6 : Option Addr} {sl6 : Array (Option Value)} {oc6 kV6 dc6 pm6 cd6 ct6 : Value}
    (a6 : PySem.W.nsIn K mainGlobals "_law_lies_within" = some (some (.ref f6))) (l6 : K.lookup f6 = some ⟨oc6, od6, .func (PySem.W.fnOf "_law_lies_within" "_law_lies_within" (defArgs s_law_lies_within) (defBody s_law_lies_within) (defScope s_law_lies_within) .none kV6 dc6 pm6 an6 cd6 ct6), sl6⟩) (c6 : PySem.W.codeIn K cd6 "_law_lies_within" = true) (k6 : PySem.W.keepIn K (.ref f6) = true)
    {f7 : Addr} {od7 an7 : Option Addr} {sl7 : Array (Option Value)} {oc7 kV7 dc7 pm7 cd7 ct7 : Value}
    (a7 : PySem.W.nsIn K mainGlobals "_law_due" = some (some (.ref f7))) (l7 : K.lookup f7 = some ⟨oc7, od7, .func (PySem.W.fnOf "_law_due" "_law_due" (defArgs s_law_due) (defBody s_law_due) (defScope s_law_due) .none kV7 dc7 pm7 an7 cd7 ct7), sl7⟩) (c7 : PySem.W.codeIn K cd7 "_law_due" = true) (k7 : PySem.W.keepIn K (.ref f7) = true)
    {f8 : Addr} {od8 an8 : Option Addr} {sl8 : Array (Option Value)} {oc8 kV8 dc8 pm8 cd8 ct8 : Value}
    (a8 : PySem.W.nsIn K mainGlobals "law" = some (some (.ref f8))) (l8 : K.lookup f8 = some ⟨oc8, od8, .func (PySem.W.fnOf "law" "law" (defArgs s_law) (defBody s_law) (defScope s_law) .none kV8 dc8 pm8 an8 cd8 ct8), sl8⟩) (c8 : PySem.W.codeIn K cd8 "law" = true) (k8 : PySem.W.keepIn K (.ref f8) = true)
    (z_bool : PySem.W.nsIn K mainGlobals "bool" = some none)
    (z_int : PySem.W.nsIn K mainGlobals "int" = some none)
    (z_isinstance : PySem.W.nsIn K mainGlobals "isinstance" = some none)
    (z_len : PySem.W.nsIn K mainGlobals "len" = some none)
    (z_list : PySem.W.nsIn K mainGlobals "list" = some none)
    (z_max : PySem.W.nsIn K mainGlobals "max" = some none)
    (z_min : PySem.W.nsIn K mainGlobals "min" = some none)
    (z_range : PySem.W.nsIn K mainGlobals "range" = some none)
    {t_HALF_WIDTH : Tok} (e_HALF_WIDTH : PySem.W.nsIn K mainGlobals "HALF_WIDTH" = some (some (.int (32768) t_HALF_WIDTH)))
    {t_LEAST_WIDTH : Tok} (e_LEAST_WIDTH : PySem.W.nsIn K mainGlobals "LEAST_WIDTH" = some (some (.int (65536) t_LEAST_WIDTH)))
    {t_ROOT_SCALE : Tok} (e_ROOT_SCALE : PySem.W.nsIn K mainGlobals "ROOT_SCALE" = some (some (.int (16) t_ROOT_SCALE)))
    : ∃ fd : FuncData, (∀ (s : Shared) (v : Value), BindsTo s fd ⟨[v], []⟩ [("_law_script", v)]) ∧ ∀ base : Heap, K.In base → base.Ns mainGlobals mg → FnOk l.prog w K mg base CX0 4 fa fd ["_law_script"] (sp_law K) := by
  have e := hfa.symm.trans (PySem.W.mg_of X G a8)
  cases e
  have Z : Zs mg := ⟨PySem.W.mg_none_of X G z_bool, PySem.W.mg_none_of X G z_int, PySem.W.mg_none_of X G z_isinstance, PySem.W.mg_none_of X G z_len, PySem.W.mg_none_of X G z_list, PySem.W.mg_none_of X G z_max, PySem.W.mg_none_of X G z_min, PySem.W.mg_none_of X G z_range, ⟨_, PySem.W.mg_of X G e_HALF_WIDTH⟩, ⟨_, PySem.W.mg_of X G e_LEAST_WIDTH⟩, ⟨_, PySem.W.mg_of X G e_ROOT_SCALE⟩⟩
  have F0 := fun_mk (st := s_fixed) l0 c0 k0
  have F1 := fun_mk (st := s_end_of) l1 c1 k1
  have F2 := fun_mk (st := s_law_pool) l2 c2 k2
  have F3 := fun_mk (st := s_law_take) l3 c3 k3
  have F4 := fun_mk (st := s_law_one) l4 c4 k4
  have F5 := fun_mk (st := s_law_node) l5 c5 k5
  have F6 := fun_mk (st := s_law_lies_within) l6 c6 k6
  have F7 := fun_mk (st := s_law_due) l7 c7 k7
  have F8 := fun_mk (st := s_law) l8 c8 k8
  refine ⟨PySem.W.fnOf "law" "law" (defArgs s_law) (defBody s_law) (defScope s_law) .none kV8 dc8 pm8 an8 cd8 ct8, fun s v => .of_eq rfl, fun base _ _ => ?_⟩
  have R_fixed : Ok_fixed l.prog w K mg base := ⟨_, _, okx_fixed Z F0 (PySem.W.mg_of X G a0) ⟩
  have R_end_of : Ok_end_of l.prog w K mg base := ⟨_, _, okx_end_of Z F1 (PySem.W.mg_of X G a1) R_fixed⟩
  have R_law_lies_within : Ok_law_lies_within l.prog w K mg base := ⟨_, _, okx_law_lies_within Z F6 (PySem.W.mg_of X G a6) ⟩
  have R_law_due : Ok_law_due l.prog w K mg base := ⟨_, _, okx_law_due Z F7 (PySem.W.mg_of X G a7) R_law_lies_within⟩
  have R_law_take : Ok_law_take l.prog w K mg base := ⟨_, _, okx_law_take Z F3 (PySem.W.mg_of X G a3) ⟩
  have R_law_one : Ok_law_one l.prog w K mg base := ⟨_, _, okx_law_one Z F4 (PySem.W.mg_of X G a4) R_law_take⟩
  have R_law_node : Ok_law_node l.prog w K mg base := ⟨_, _, okx_law_node Z F5 (PySem.W.mg_of X G a5) R_law_one R_law_take⟩
  have R_law_pool : Ok_law_pool l.prog w K mg base := ⟨_, _, okx_law_pool Z F2 (PySem.W.mg_of X G a2) ⟩
  exact (okx_law (P := l.prog) (w := w) (base := base) Z F8 (PySem.W.mg_of X G a8) R_end_of R_law_due R_law_node R_law_pool).G
theorem walk {l : PySem.W.OpenLaw} {q : Program} {loose : List Str} {XP : (Str → Option Value) → Heap → Prop} {YP : World → Heap → Prop} {d : DefRec} {K : Params → PySem.W.Frag} (hn : l.most = some 63) (hdf : d.params.defaults = [])
    (hY : ∀ (w : World) (h : Heap), YP w h → (K w.params).In h)
    (F : ∀ (w : World) (mg : Str → Option Value) (fa : Addr) (h : Heap), (K w.params).In h → h.Ns mainGlobals mg → mg d.name = some (.ref fa) →
      ∃ fd : FuncData, (∀ (s : Shared) (u : Value), BindsTo s fd ⟨[u], []⟩ [("_law_script", u)]) ∧ ∀ base : Heap, (K w.params).In base → base.Ns mainGlobals mg → FnOk l.prog w (K w.params) mg base CX0 4 fa fd ["_law_script"] (sp_law (K w.params))) :
    PySem.W.WalkO q loose XP YP l.row.toRowW d [] (fun f vs => PySem.call f vs) :=
  L2.walk_of (n := 63) (k := 4) (x := "_law_script") (CX := fun _ => CX0) (sp := fun w => sp_law (K w.params)) hn (by decide) hdf ⟨rfl, by decide, by decide⟩ hY F (fun _ _ _ ns hl _ hS => law_start hl hS) fun _ _ _ _ _ z => z
end NB
open PySem PySem.W PyProof.Rows in
set_option maxRecDepth 100000 in
set_option maxHeartbeats 0 in
theorem PySem.Challenge.cw_narrowingbits_k08_ends_by_trying_all_holds : PySem.Challenge.rw_narrowingbits_k08_ends_by_trying_all.Holds := by
  w_on; o_law; k_head; (case hw => w_witness2)
  k_fill
  refine NB.walk (l := PySem.Challenge.rw_narrowingbits_k08_ends_by_trying_all) rfl rfl (fun w h Y => PySem.W.kIn_of Y) ?F
  case F =>
    intro w mg fa h KX G hmg
    refine' NB.all_mk KX G hmg ?a0 ?l0 ?c0 ?k0 ?a1 ?l1 ?c1 ?k1 ?a2 ?l2 ?c2 ?k2 ?a3 ?l3 ?c3 ?k3 ?a4 ?l4 ?c4 ?k4 ?a5 ?l5 ?c5 ?k5 ?a6 ?l6 ?c6 ?k6 ?a7 ?l7 ?c7 ?k7 ?a8 ?l8 ?c8 ?k8 ?z_bool ?z_int ?z_isinstance ?z_len ?z_list ?z_max ?z_min ?z_range ?e_HALF_WIDTH ?e_LEAST_WIDTH ?e_ROOT_SCALE
    (case a0 => k_is)
    (case l0 => k_is)
    (case c0 => k_is)
    (case k0 => k_is)
    (case a1 => k_is)
    (case l1 => k_is)
    (case c1 => k_is)
    (case k1 => k_is)
    (case a2 => k_is)
    (case l2 => k_is)
    (case c2 => k_is)
    (case k2 => k_is)
    (case a3 => k_is)
    (case l3 => k_is)
    (case c3 => k_is)
    (case k3 => k_is)
    (case a4 => k_is)
    (case l4 => k_is)
    (case c4 => k_is)
    (case k4 => k_is)
    (case a5 => k_is)
    (case l5 => k_is)
    (case c5 => k_is)
    (case k5 => k_is)
    (case a6 => k_is)
    (case l6 => k_is)
    (case c6 => k_is)
    (case k6 => k_is)
    (case a7 => k_is)
    (case l7 => k_is)
    (case c7 => k_is)
    (case k7 => k_is)
    (case a8 => k_is)
    (case l8 => k_is)
    (case c8 => k_is)
    (case k8 => k_is)
    (case z_bool => k_is)
    (case z_int => k_is)
    (case z_isinstance => k_is)
    (case z_len => k_is)
    (case z_list => k_is)
    (case z_max => k_is)
    (case z_min => k_is)
    (case z_range => k_is)
    (case e_HALF_WIDTH => k_is)
    (case e_LEAST_WIDTH => k_is)
    (case e_ROOT_SCALE => k_is)
#print axioms PySem.Challenge.cw_narrowingbits_k08_ends_by_trying_all_holds

