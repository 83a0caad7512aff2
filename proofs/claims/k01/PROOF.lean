import PyProof.Rows.All
import Wide.All
import OpenK.AllK
import Wide.FinOn
import HandS.ForMost
import HandS.IsInst
import HandS.TupAny
import HandS.Style
import HandS.Wide
import HandS.SetFor
import PyProof.SumWalkG
import HandS.TupMul
import PySem.Challenge.RW_stepscale_k01_steps_and_pipelines_recogn
set_option Elab.async false
set_option linter.all false
set_option maxRecDepth 100000
set_option maxHeartbeats 40000000
set_option autoImplicit false
namespace My
open PySem L2

/-! ### heaps -/
theorem Same.up {H H1 : Hp} {p : Addr} {o : HO} (h : Same H H1) (n : H1 p = none) : Same H (L2.upd H1 p o) := fun b x e => by
  rw [upd_ne (ne_of_none (h b x e) n)]; exact h b x e
theorem Same.upN {H H1 : Hp} {p : Addr} {o : HO} (h : Same H H1) (n : H p = none) : Same H (L2.upd H1 p o) := fun b x e => by
  rw [upd_ne (ne_of_none e n)]; exact h b x e
theorem Rd.same {H H' : Hp} {a : Addr} {u : HO} (e : Same H H') (h : Rd H a u) : Rd H' a u := by
  rcases h with h | ⟨o, h⟩
  · exact .inl (e _ _ h)
  · exact .inr ⟨o, e _ _ h⟩
theorem SqL.same {K : PySem.W.Frag} {H H' : Hp} {a : Addr} {xs : List V} (e : Same H H') (h : SqL K H a xs) : SqL K H' a xs := e.seq h
theorem SqT.same {K : PySem.W.Frag} {H H' : Hp} {a : Addr} {xs : List V} (e : Same H H') (h : SqT K H a xs) : SqT K H' a xs := by
  rcases h with h | h
  · exact .inl (Rd.same e h)
  · exact .inr h
/-- tuples stay where a list is written -/
theorem SqT.updL {K : PySem.W.Frag} {H : Hp} {a l : Addr} {xs ys : List V} {o : HO} (h : SqT K H a xs) (hl : H l = some (.lst ys)) : SqT K (L2.upd H l o) a xs := by
  rcases h with (h | ⟨ob, h⟩) | h
  · exact .inl (.inl (by rw [upd_ne (ne_of h hl (by intro z; cases z))]; exact h))
  · exact .inl (.inr ⟨ob, by rw [upd_ne (ne_of h hl (by intro z; cases z))]; exact h⟩)
  · exact .inr h
theorem SqT.new {K : PySem.W.Frag} {H : Hp} {a : Addr} {xs : List V} : SqT K (L2.upd H a (.tup xs)) a xs := SqT.of upd_same
theorem SqL.new {K : PySem.W.Frag} {H : Hp} {a : Addr} {xs : List V} : SqL K (L2.upd H a (.lst xs)) a xs := SqL.of upd_same
mutual
theorem Dp.same {K : PySem.W.Frag} {H H' : Hp} (e : Same H H') : ∀ {v : V} {d : PyData}, Dp K H v d → Dp K H' v d
  | _, _, .non => .non
  | _, _, .bl b => .bl b
  | _, _, .int i => .int i
  | _, _, .str x => .str x
  | _, _, .lst h a => .lst (e.seq h) (DpAll.same e a)
  | _, _, .tup h a => .tup (SqT.same e h) (DpAll.same e a)
theorem DpAll.same {K : PySem.W.Frag} {H H' : Hp} (e : Same H H') : ∀ {v : List V} {d : List PyData}, DpAll K H v d → DpAll K H' v d
  | _, _, .nil => .nil
  | _, _, .cons h t => .cons (Dp.same e h) (DpAll.same e t)
end

/-! ### calls -/
structure Can (P : Program) (w : World) (K : PySem.W.Frag) (mg : Str → Option Value) (base : Heap) (k : Nat) (x : Str) (ps : List Str) (sp : Sp) : Prop where
  ex : ∃ f fd, FnOk P w K mg base CX0 k f fd ps sp ∧ Binds K fd ps [] ∧ mg x = some (.ref f) ∧ PySem.W.keepIn K (.ref f) = true
theorem Can.mk' {P : Program} {w : World} {K : PySem.W.Frag} {mg : Str → Option Value} {base : Heap} {k : Nat} {x : Str} {ps : List Str} {sp : Sp} {f : Addr} {fd : FuncData} {q : Str} {st : Stmt}
    (F : Fun K x q st f fd) (G : FnOk P w K mg base CX0 k f fd ps sp) (b : Binds K fd ps []) (m : mg x = some (.ref f)) : Can P w K mg base k x ps sp := ⟨f, fd, G, b, m, F.kp⟩
/-- a module's int -/
def KInt (mg : Str → Option Value) (x : Str) (i : Int) : Prop := ∃ t, mg x = some (.int i t)
section
variable {X : Cx} {k : Nat} {x : Str} {ps : List Str} {sp : Sp} {p pos : Pos} {e : Expr} {es : List Expr} {t : TA}
def tCan (sp : Sp) (t : TA) : TE := fun σ H Q => t σ H fun vs H1 => sp vs H1 Q E0
theorem pe_can (C : Can X.prog X.w X.K X.mg X.base k x ps sp) (hr : Room k X.A) (hg : Gl X x) (ha : PA X (e :: es) t) (hdb : (x == ("__debug__" : Str)) = false := by decide)
    (hs : starEach (e :: es) X.env = (false, eval e X.env) :: starEach es X.env := by rfl) (hpl : (backTo pos (starEach es X.env)).any (·.1) = false := by rfl) : PE X (.Call (.Name x p) (e :: es) [] pos) (tCan sp t) := by
  obtain ⟨f, fd, F, b, m, kp⟩ := C.ex
  refine ⟨fun pins s σ H Q I h => ?_⟩
  exact (pe_call F hr hg m kp b .nil pass0 ha hdb hs hpl).run pins s σ H Q I (by
    show t σ H fun vs H1 => sp (vs ++ []) H1 Q E0
    simp only [List.append_nil]
    exact h)
theorem pe_k {i : Int} (hg : Gl X x) (g : KInt X.mg x i) (hd : (x == ("__debug__" : Str)) = false := by decide) : PE X (.Name x pos) (tC (.int i)) := by
  obtain ⟨t, h⟩ := g
  exact pe_glob hg h ⟨t, rfl⟩ hd
end

/-! ### readings by name -/
def nLen (K : PySem.W.Frag) : List V → Hp → VK → Prop := fun xs H Q => ∃ p ys, xs = [.ref p] ∧ (SqL K H p ys ∨ SqT K H p ys) ∧ Q (.int ys.length) H
def nInt : List V → Hp → VK → Prop := fun xs H Q => (∃ i, xs = [.int i] ∧ Q (.int i) H) ∨ ∃ k, xs = [.bl k] ∧ Q (.int (if k then 1 else 0)) H
def nAbs : List V → Hp → VK → Prop := fun xs H Q => ∃ i, xs = [.int i] ∧ Q (.int (if i < 0 then -i else i)) H
def nMax : List V → Hp → VK → Prop := fun xs H Q => ∃ i j, xs = [.int i, .int j] ∧ Q (.int (if j > i then j else i)) H
def nMin : List V → Hp → VK → Prop := fun xs H Q => ∃ i j, xs = [.int i, .int j] ∧ Q (.int (if j < i then j else i)) H
def nTup (K : PySem.W.Frag) : List V → Hp → VK → Prop := fun xs H Q => ∃ p ys, xs = [.ref p] ∧ ((SqL K H p ys ∧ ∀ l, H l = none → Q (.ref l) (L2.upd H l (.tup ys))) ∨ (SqT K H p ys ∧ Q (.ref p) H))
def nLst (K : PySem.W.Frag) : List V → Hp → VK → Prop := fun xs H Q => ∃ p ys, xs = [.ref p] ∧ (SqL K H p ys ∨ SqT K H p ys) ∧ ∀ l, H l = none → Q (.ref l) (L2.upd H l (.lst ys))
section
variable {X : Cx}
theorem kint1 : CallR X (.type "int") nInt := call_int1
theorem kabs : CallR X (.builtin "abs") nAbs := call_abs
theorem kmax2 (hc : X.calm = true := by rfl) : CallR X (.builtin "max") nMax := call_max2 hc
theorem kmin2 (hc : X.calm = true := by rfl) : CallR X (.builtin "min") nMin := call_min2 hc
end
section
variable {H : Hp} {Q : VK} {K : PySem.W.Frag}
theorem r_lenL {p : Addr} {ys : List V} (h : SqL K H p ys) (q : Q (.int ys.length) H) : nLen K [.ref p] H Q := ⟨p, ys, rfl, .inl h, q⟩
theorem r_lenT {p : Addr} {ys : List V} (h : SqT K H p ys) (q : Q (.int ys.length) H) : nLen K [.ref p] H Q := ⟨p, ys, rfl, .inr h, q⟩
theorem r_inti {i : Int} (q : Q (.int i) H) : nInt [.int i] H Q := .inl ⟨i, rfl, q⟩
theorem r_intb {k : Bool} (q : Q (.int (if k then 1 else 0)) H) : nInt [.bl k] H Q := .inr ⟨k, rfl, q⟩
theorem r_abs {i : Int} (q : Q (.int (if i < 0 then -i else i)) H) : nAbs [.int i] H Q := ⟨i, rfl, q⟩
theorem r_max2 {i j : Int} (q : Q (.int (if j > i then j else i)) H) : nMax [.int i, .int j] H Q := ⟨i, j, rfl, q⟩
theorem r_min2 {i j : Int} (q : Q (.int (if j < i then j else i)) H) : nMin [.int i, .int j] H Q := ⟨i, j, rfl, q⟩
theorem r_tupL {p : Addr} {ys : List V} (h : SqL K H p ys) (q : ∀ l, H l = none → Q (.ref l) (L2.upd H l (.tup ys))) : nTup K [.ref p] H Q := ⟨p, ys, rfl, .inl ⟨h, q⟩⟩
theorem r_tupT {p : Addr} {ys : List V} (h : SqT K H p ys) (q : Q (.ref p) H) : nTup K [.ref p] H Q := ⟨p, ys, rfl, .inr ⟨h, q⟩⟩
theorem r_lstL {p : Addr} {ys : List V} (h : SqL K H p ys) (q : ∀ l, H l = none → Q (.ref l) (L2.upd H l (.lst ys))) : nLst K [.ref p] H Q := ⟨p, ys, rfl, .inl h, q⟩
theorem r_lstT {p : Addr} {ys : List V} (h : SqT K H p ys) (q : ∀ l, H l = none → Q (.ref l) (L2.upd H l (.lst ys))) : nLst K [.ref p] H Q := ⟨p, ys, rfl, .inr h, q⟩
end

/-! ### readings, from the left -/
section
variable {σ : St} {H : Hp} {Q : VK} {K : PySem.W.Frag} {D : Ends}
theorem r_var {i : Nat} {v : V} (e : σ[i]? = some (some v)) (h : Q v H) : tVar i σ H Q := ⟨v, e, h⟩
theorem r_c {v : V} (h : Q v H) : tC v σ H Q := h
theorem r_op {r : R2} {ta tb : TE} (h : ta σ H fun x H1 => tb σ H1 fun y H2 => r x y H2 Q) : tOp r ta tb σ H Q := h
theorem r_un {r : V → Hp → VK → Prop} {ta : TE} (h : ta σ H fun x H1 => r x H1 Q) : tUn r ta σ H Q := h
theorem r_i0 {g : Int → Int → V} {i j : Int} (h : Q (g i j) H) : rI0 g (.int i) (.int j) H Q := ⟨i, j, rfl, rfl, h⟩
theorem r_mul {g : Int → Int → V} {i j : Int} (c : CMul i j) (h : Q (g i j) H) : rI CMul g (.int i) (.int j) H Q := ⟨i, j, rfl, rfl, c, h⟩
theorem r_div {g : Int → Int → V} {i j : Int} (c : CDiv i j) (h : Q (g i j) H) : rI CDiv g (.int i) (.int j) H Q := ⟨i, j, rfl, rfl, c, h⟩
theorem r_divN {g : Int → Int → V} {i j : Int} (c : CDivN i j) (h : Q (g i j) H) : rI CDivN g (.int i) (.int j) H Q := ⟨i, j, rfl, rfl, c, h⟩
theorem r_pow {g : Int → Int → V} {i j : Int} (c : CPow i j) (h : Q (g i j) H) : rI CPow g (.int i) (.int j) H Q := ⟨i, j, rfl, rfl, c, h⟩
theorem r_mod {g : Int → Int → V} {i j : Int} (c : 0 < j) (h : Q (g i j) H) : rI (fun _ j => 0 < j) g (.int i) (.int j) H Q := ⟨i, j, rfl, rfl, c, h⟩
theorem r_modN {g : Int → Int → V} {i j : Int} (c : j ≠ 0) (h : Q (g i j) H) : rI (fun _ j => j ≠ 0) g (.int i) (.int j) H Q := ⟨i, j, rfl, rfl, c, h⟩
theorem r_u {g : Int → V} {i : Int} (h : Q (g i) H) : rU g (.int i) H Q := ⟨i, rfl, h⟩
theorem r_eq {x y : V} (c : scal x y = true) (h : Q (.bl (decide (x = y))) H) : rEq x y H Q := ⟨c, h⟩
theorem r_ne {x y : V} (c : scal x y = true) (h : Q (.bl (!decide (x = y))) H) : rNe x y H Q := ⟨c, h⟩
theorem r_test {t : TE} {Q : Bool → Hp → Prop} (h : t σ H fun x H' => ∃ k, x = .bl k ∧ Q k H') : tTest t σ H Q := h
theorem r_b {t : TE} {Q : Bool → Hp → Prop} (h : t σ H fun x H' => ∃ k, x = .bl k ∧ Q k H') : tB t σ H Q := h
theorem r_exb {b : Bool} {Q : Bool → Prop} (h : Q b) : ∃ k, V.bl b = .bl k ∧ Q k := ⟨b, rfl, h⟩
theorem r_exi {b : Int} {Q : Int → Prop} (h : Q b) : ∃ k, V.int b = .int k ∧ Q k := ⟨b, rfl, h⟩
theorem r_and {t u : TT} {Q : Bool → Hp → Prop} (h : t σ H fun c H1 => if c = true then u σ H1 Q else Q false H1) : tAnd t u σ H Q := h
theorem r_or {t u : TT} {Q : Bool → Hp → Prop} (h : t σ H fun c H1 => if c = true then Q true H1 else u σ H1 Q) : tOr t u σ H Q := h
theorem r_not {t : TT} {Q : Bool → Hp → Prop} (h : t σ H fun c H1 => Q (!c) H1) : tNot t σ H Q := h
theorem r_andV {ta tb : TE} (h : ta σ H fun x H1 => ∃ c, x = .bl c ∧ if c = true then tb σ H1 Q else Q (.bl false) H1) : tAndV ta tb σ H Q := h
theorem r_orV {ta tb : TE} (h : ta σ H fun x H1 => ∃ c, x = .bl c ∧ if c = true then Q (.bl true) H1 else tb σ H1 Q) : tOrV ta tb σ H Q := h
theorem r_notV {ta : TE} (h : ta σ H fun x H1 => ∃ c, x = .bl c ∧ Q (.bl (!c)) H1) : tNotV ta σ H Q := h
theorem r_if {t : TT} {ta tb : TE} (h : t σ H fun c H1 => if c = true then ta σ H1 Q else tb σ H1 Q) : tIf t ta tb σ H Q := h
theorem r_chain {r r' : R2} {ta tb tc : TE} (h : ta σ H fun x H1 => tb σ H1 fun y H2 => r x y H2 fun z H3 => ∃ k, z = .bl k ∧ (if k = true then tc σ H3 fun u H4 => r' y u H4 Q else Q (.bl false) H3)) : tChain r r' ta tb tc σ H Q := by
  first | exact h | (unfold tChain; exact h)
theorem r_cons {ta : TE} {tr : TA} {Q : List V → Hp → Prop} (h : ta σ H fun x H1 => tr σ H1 fun xs H2 => Q (x :: xs) H2) : tCons ta tr σ H Q := h
theorem r_nil {Q : List V → Hp → Prop} (h : Q [] H) : tNil σ H Q := h
theorem r_tup {t : TA} (h : t σ H fun xs H1 => xs.length ≤ sizeLine ∧ ∀ p, H1 p = none → Q (.ref p) (L2.upd H1 p (.tup xs))) : tTup t σ H Q := h
theorem r_lst {t : TA} (h : t σ H fun xs H1 => xs.length ≤ sizeLine ∧ ∀ p, H1 p = none → Q (.ref p) (L2.upd H1 p (.lst xs))) : tLst t σ H Q := h
theorem r_small {A : Prop} {xs : List V} {n : Nat} (e : xs.length ≤ n) (h : n ≤ sizeLine) (a : A) : xs.length ≤ sizeLine ∧ A := ⟨Nat.le_trans e h, a⟩
theorem r_can {sp : Sp} {t : TA} (h : t σ H fun vs H1 => sp vs H1 Q E0) : tCan sp t σ H Q := h
theorem r_cb {r : List V → Hp → VK → Prop} {t : TA} (h : t σ H fun vs H1 => r vs H1 Q) : tCB r t σ H Q := h
theorem r_ixT {p : Addr} {xs : List V} {i : Int} {v : V} (h : SqT K H p xs) (e : atI xs i = some v) (q : Q v H) : rIxT K (.ref p) (.int i) H Q := ⟨p, xs, i, v, rfl, rfl, h, e, q⟩
theorem r_ixL {p : Addr} {xs : List V} {i : Int} {v : V} (h : SqL K H p xs) (e : atI xs i = some v) (q : Q v H) : rIxL K (.ref p) (.int i) H Q := ⟨p, xs, i, v, rfl, rfl, h, e, q⟩
theorem r_ix {x y : V} (q : rIxL K x y H Q ∨ rIxT K x y H Q ∨ rIxS x y H Q) : rIx K x y H Q := q
theorem r_bm {T : String} {r : V → List V → Hp → VK → Prop} {to : TE} {t : TA} (h : to σ H fun x H1 => tyV K T x H1 ∧ t σ H1 fun xs H2 => r x xs H2 Q) : tBM K T r to t σ H Q := h
theorem r_bm0 {T : String} {r : V → List V → Hp → VK → Prop} {to : TE} (h : to σ H fun x H1 => tyV K T x H1 ∧ r x [] H1 Q) : tBM0 K T r to σ H Q := h
theorem r_append {l : Addr} {xs : List V} {y : V} (h : H l = some (.lst xs)) (s : xs.length < sizeLine) (q : Q .non (L2.upd H l (.lst (xs ++ [y])))) : rAppend (.ref l) [y] H Q := ⟨l, xs, y, rfl, rfl, h, s, q⟩
/-- statements -/
theorem s_seq {t u : TS} (h : t { D with nx := u D } σ H) : tSeq t u D σ H := h
theorem s_next (h : D.nx σ H) : tNext D σ H := h
theorem s_asg {te : TE} {g : TG} (h : te σ H fun x H1 => g x σ H1 D.nx) : tAsg te g D σ H := h
theorem s_name {i : Nat} {v : V} {Q : St → Hp → Prop} (h : Q (σ.set i (some v)) H) : gName i v σ H Q := h
theorem s_par {i j : Nat} {ta : TA} (h : ta σ H fun vs H1 => ∃ v w, vs = [v, w] ∧ D.nx ((σ.set i (some v)).set j (some w)) H1) : tPar i j ta D σ H := h
theorem s_par2 {v w : V} {A : V → V → Prop} (h : A v w) : ∃ v' w', [v, w] = [v', w'] ∧ A v' w' := ⟨v, w, rfl, h⟩
theorem s_drop {te : TE} (h : te σ H fun _ H1 => D.nx σ H1) : tDrop te D σ H := h
theorem s_ret {te : TE} (h : te σ H D.rt) : tRet te D σ H := h
theorem s_retN (h : D.rt .non H) : tRetN D σ H := h
theorem s_if {c : TT} {t u : TS} (h : c σ H fun b H1 => if b = true then t D σ H1 else u D σ H1) : tIfS c t u D σ H := h
theorem s_tupT {p : Addr} {xs : List V} {n : Nat} {t : TGs} {Q : St → Hp → Prop} (h : SqT K H p xs) (e : xs.length = n) (q : t xs σ H Q) : gTup K n t (.ref p) σ H Q := ⟨p, xs, rfl, h, e, q⟩
theorem s_gcons {t : TG} {u : TGs} {v : V} {r : List V} {Q : St → Hp → Prop} (h : t v σ H fun σ' H' => u r σ' H' Q) : gCons t u (v :: r) σ H Q := ⟨v, r, rfl, h⟩
theorem s_gnil {Q : St → Hp → Prop} (h : Q σ H) : gNil [] σ H Q := ⟨rfl, h⟩
theorem ifb {c A B : Prop} [Decidable c] (h1 : c → A) (h2 : ¬ c → B) : if decide c = true then A else B := by
  by_cases h : c
  · rw [decide_eq_true h]; exact iteT (h1 h)
  · rw [decide_eq_false h]; exact iteF (h2 h)
theorem ifnb {c A B : Prop} [Decidable c] (h1 : ¬ c → A) (h2 : c → B) : if (!decide c) = true then A else B := by
  by_cases h : c
  · rw [decide_eq_true h]; exact iteF (h2 h)
  · rw [decide_eq_false h]; exact iteT (h1 h)
theorem ifB {c : Bool} {A B : Prop} (h1 : c = true → A) (h2 : c = false → B) : if c = true then A else B := by
  cases c
  · exact iteF (h2 rfl)
  · exact iteT (h1 rfl)
theorem dec_vint {i j : Int} {A B : Prop} (h : if decide (i = j) = true then A else B) : if decide (V.int i = V.int j) = true then A else B := by
  have e : decide (V.int i = V.int j) = decide (i = j) := by
    by_cases q : i = j
    · subst q; simp
    · rw [decide_eq_false q, decide_eq_false (fun z => q (V.int.inj z))]
  rw [e]; exact h
theorem dec_vintn {i j : Int} {A B : Prop} (h : if (!decide (i = j)) = true then A else B) : if (!decide (V.int i = V.int j)) = true then A else B := by
  have e : decide (V.int i = V.int j) = decide (i = j) := by
    by_cases q : i = j
    · subst q; simp
    · rw [decide_eq_false q, decide_eq_false (fun z => q (V.int.inj z))]
  rw [e]; exact h
end
theorem sz_le {n : Nat} (h : n ≤ 16777216) : n ≤ sizeLine := by rw [PySem.sizeLine_eq]; exact h
theorem sz_lt {n : Nat} (h : n < 16777216) : n < sizeLine := by rw [PySem.sizeLine_eq]; exact h

/-! ### the rules with K said -/
section
variable {X : Cx} (K : PySem.W.Frag)
theorem kix_list (h : X.K = K := by rfl) : IxR X (rIxL K) := by subst h; exact ix_list
theorem kix_tup (h : X.K = K := by rfl) : IxR X (rIxT K) := by subst h; exact ix_tup
theorem kix_seq (h : X.K = K := by rfl) : IxR X (rIx K) := by subst h; exact ix_seq
theorem klen (h : X.K = K := by rfl) : CallR X (.builtin "len") (nLen K) := by subst h; exact call_len_seq
theorem ksl_tup (h : X.K = K := by rfl) : SlR X (rSlT K) := by subst h; exact sl_tup
theorem ksl_list (h : X.K = K := by rfl) : SlR X (rSlL K) := by subst h; exact sl_list
theorem keqD (hu : X.A.units + 64 < cLine) (h : X.K = K := by rfl) : OpR X (compareOp .Eq) (rEqD K) := by subst h; exact op_eqD hu
theorem kneD (hu : X.A.units + 64 < cLine) (h : X.K = K := by rfl) : OpR X (compareOp .NotEq) (rNeD K) := by subst h; exact op_neD hu
theorem kisi (h : X.K = K := by rfl) : CallR X (.builtin "isinstance") (rIsi K) := by subst h; exact call_isi
theorem kall (hc : X.calm = true := by rfl) (h : X.K = K := by rfl) : CallR X (.builtin "all") (rAll K) := by subst h; exact cr_all hc
theorem ksum (hc : X.calm = true := by rfl) (h : X.K = K := by rfl) : CallR X (.builtin "sum") (rSum K) := by subst h; exact cr_sum hc
theorem kmax (hc : X.calm = true := by rfl) (h : X.K = K := by rfl) : CallR X (.builtin "max") (rMax K) := by subst h; exact cr_max hc
theorem kmin (hc : X.calm = true := by rfl) (h : X.K = K := by rfl) : CallR X (.builtin "min") (rMin K) := by subst h; exact cr_min hc
theorem kin (h : X.K = K := by rfl) : OpR X (compareOp .In) (rIn K false) := by subst h; exact op_in_seq
theorem knotIn (h : X.K = K := by rfl) : OpR X (compareOp .NotIn) (rIn K true) := by subst h; exact op_notIn_seq
theorem kcatT (h : X.K = K := by rfl) : OpR X (binaryOp .Add) (rCatT K) := by subst h; exact op_catT
theorem klist_of (h : X.K = K := by rfl) : CallR X (.type "list") (nLst K) := by subst h; exact call_list_of
theorem ktuple_of (h : X.K = K := by rfl) : CallR X (.type "tuple") (nTup K) := by subst h; exact call_tuple_of
theorem kpi_list {tg l : Expr} {tl : TE} (hl : PE X l tl) (h : X.K = K := by rfl) : PI X tg l (iList K tl) := by subst h; exact pi_list hl
theorem kpi_tup {tg l : Expr} {tl : TE} (hl : PE X l tl) (h : X.K = K := by rfl) : PI X tg l (iTup K tl) := by subst h; exact pi_tup hl
theorem kpg_tup {es : List Expr} {k : Nat} {t : TGs} {n : Nat} {pos : Pos} (h : PGs X es t) (hc : X.calm = true := by rfl) (hn : (assignEach es X.env).length = n := by rfl) (hst : (assignEach es X.env).findIdx? (·.1) = none := by rfl) (hK : X.K = K := by rfl) :
    PG X (.Tuple es k pos) (gTup K n t) := by subst hK; exact pg_tup hc h hn hst
end

theorem iteD {c A B : Prop} [Decidable c] (e : decide c = true) (h : A) : if decide c = true then A else B := by rw [e]; exact iteT h
theorem iteDF {c A B : Prop} [Decidable c] (e : decide c = false) (h : B) : if decide c = true then A else B := by rw [e]; exact iteF h
theorem iteND {c A B : Prop} [Decidable c] (e : decide c = true) (h : B) : if (!decide c) = true then A else B := by rw [e]; exact iteF h
theorem iteNDF {c A B : Prop} [Decidable c] (e : decide c = false) (h : A) : if (!decide c) = true then A else B := by rw [e]; exact iteT h
theorem ifNB {c : Bool} {A B : Prop} (h1 : c = false → A) (h2 : c = true → B) : if (!c) = true then A else B := by
  cases c
  · exact iteT (h1 rfl)
  · exact iteF (h2 rfl)
theorem iteNF {A B : Prop} (h : B) : if (!true) = true then A else B := iteF h
theorem iteNT {A B : Prop} (h : A) : if (!false) = true then A else B := iteT h
theorem qint {Q : VK} {i j : Int} {H : Hp} (e : i = j) (h : Q (.int j) H) : Q (.int i) H := e ▸ h
theorem qbl {Q : VK} {i j : Bool} {H : Hp} (e : i = j) (h : Q (.bl j) H) : Q (.bl i) H := e ▸ h
theorem scE1 : decide (V.str "scale" = V.str "scale") = true := by decide +kernel
theorem scE2 : decide (V.str "even" = V.str "scale") = false := by decide +kernel
theorem scE3 : decide (V.str "scale" = V.str "even") = false := by decide +kernel
theorem scE4 : decide (V.str "even" = V.str "even") = true := by decide +kernel
/-! ### isinstance -/
def tyD : PyData → String
  | .none => "NoneType" | .bool _ => "bool" | .int _ => "int" | .str _ => "str" | .list _ => "list" | .tuple _ => "tuple" | .dict _ => "dict"
theorem Dp.ty {K : PySem.W.Frag} {H : Hp} {v : V} {d : PyData} (h : Dp K H v d) : TyX K H v (.type (tyD d)) := by
  cases h with
  | non => exact .base .non
  | bl b => exact .base (.bl b)
  | int i => exact .base (.int i)
  | str x => exact .base (.str x)
  | lst h a =>
    rcases h with (h | ⟨o, h⟩) | ⟨o, its, n, h, c, _⟩
    · exact .base (.lst h)
    · exact .base (.frz h)
    · exact .kList h c
  | tup h a =>
    rcases h with (h | ⟨o, h⟩) | ⟨o, its, n, h, c, _⟩
    · exact .base (.tup h)
    · exact .fTuple h
    · exact .kTuple h c
section
variable {K : PySem.W.Frag} {H : Hp} {Q : VK}
theorem r_isi {v : V} {d : PyData} {T : String} {b : Bool} (h : Dp K H v d) (e : kitB (tyD d) T = some b) (q : Q (.bl b) H) : rIsi K [v, .ty T] H Q :=
  ⟨v, .ty T, _, _, b, rfl, .ty T, Dp.ty h, kit_ty e, q⟩
theorem r_eqD {x y : V} {d e : PyData} (hd : Dp K H x d) (he : Dp K H y e) (sd : SeqAt.shaped d = true) (se : SeqAt.shaped e = true) (q : Q (.bl (PyData.eqv d e)) H) : rEqD K x y H Q := ⟨d, e, hd, he, sd, se, q⟩
theorem r_neD {x y : V} {d e : PyData} (hd : Dp K H x d) (he : Dp K H y e) (sd : SeqAt.shaped d = true) (se : SeqAt.shaped e = true) (q : Q (.bl (!PyData.eqv d e)) H) : rNeD K x y H Q := ⟨d, e, hd, he, sd, se, q⟩
theorem r_all {a : Addr} {bs : List Bool} (h : SqL K H a (bs.map V.bl)) (q : Q (.bl (bs.all id)) H) : rAll K [.ref a] H Q := ⟨a, bs, rfl, h, q⟩
theorem r_sum {a : Addr} {ns : List Int} (h : SqL K H a (ns.map V.int)) (q : Q (.int ns.sum) H) : rSum K [.ref a] H Q := ⟨a, ns, rfl, h, q⟩
end

section
variable {K : PySem.W.Frag} {H : Hp} {Q : VK}
theorem r_isiT {v : V} {d : PyData} {T : String} (h : Dp K H v d) (e : kitB (tyD d) T = some true) (q : Q (.bl true) H) : rIsi K [v, .ty T] H Q := r_isi h e q
theorem r_isiF {v : V} {d : PyData} {T : String} (h : Dp K H v d) (e : kitB (tyD d) T = some false) (q : Q (.bl false) H) : rIsi K [v, .ty T] H Q := r_isi h e q
end
theorem DpAll.len {K : PySem.W.Frag} {H : Hp} : ∀ {vs : List V} {ds : List PyData}, DpAll K H vs ds → vs.length = ds.length
  | _, _, .nil => rfl
  | _, _, .cons _ t => by simp [DpAll.len t]
theorem DpAll.get {K : PySem.W.Frag} {H : Hp} : ∀ {vs : List V} {ds : List PyData} {i : Nat} {v : V}, DpAll K H vs ds → vs[i]? = some v → ∃ d, ds[i]? = some d ∧ Dp K H v d
  | _, _, _, _, .nil, e => by simp at e
  | _, _, 0, _, .cons r _, e => by simp at e; subst e; exact ⟨_, rfl, r⟩
  | _, _, i + 1, x, .cons _ t, e => by
    obtain ⟨u, h1, h2⟩ := DpAll.get (i := i) (v := x) t (by simpa using e)
    exact ⟨u, by simpa using h1, h2⟩
/-! ### what a step, a pipeline is, of any data -/
def isIntD : PyData → Int → Int → Bool
  | .int i, lo, hi => decide (lo ≤ i) && decide (i ≤ hi)
  | _, _, _ => false
def isStepD : PyData → Bool
  | .tuple (.str t :: r) => if t = "even" then (match r with | [a] => isIntD a 1 60 | _ => false) else
      if t = "scale" then (match r with | [a, b, c] => isIntD a 1 120 && isIntD b 1 120 && isIntD c (-1000000000) 1000000000 | _ => false) else false
  | _ => false
theorem kB_NoneType_int : kitB "NoneType" "int" = some false := by decide +kernel
theorem kB_NoneType_bool : kitB "NoneType" "bool" = some false := by decide +kernel
theorem kB_NoneType_str : kitB "NoneType" "str" = some false := by decide +kernel
theorem kB_NoneType_tuple : kitB "NoneType" "tuple" = some false := by decide +kernel
theorem kB_NoneType_list : kitB "NoneType" "list" = some false := by decide +kernel
theorem kB_bool_int : kitB "bool" "int" = some true := by decide +kernel
theorem kB_bool_bool : kitB "bool" "bool" = some true := by decide +kernel
theorem kB_bool_str : kitB "bool" "str" = some false := by decide +kernel
theorem kB_bool_tuple : kitB "bool" "tuple" = some false := by decide +kernel
theorem kB_bool_list : kitB "bool" "list" = some false := by decide +kernel
theorem kB_int_int : kitB "int" "int" = some true := by decide +kernel
theorem kB_int_bool : kitB "int" "bool" = some false := by decide +kernel
theorem kB_int_str : kitB "int" "str" = some false := by decide +kernel
theorem kB_int_tuple : kitB "int" "tuple" = some false := by decide +kernel
theorem kB_int_list : kitB "int" "list" = some false := by decide +kernel
theorem kB_str_int : kitB "str" "int" = some false := by decide +kernel
theorem kB_str_bool : kitB "str" "bool" = some false := by decide +kernel
theorem kB_str_str : kitB "str" "str" = some true := by decide +kernel
theorem kB_str_tuple : kitB "str" "tuple" = some false := by decide +kernel
theorem kB_str_list : kitB "str" "list" = some false := by decide +kernel
theorem kB_list_int : kitB "list" "int" = some false := by decide +kernel
theorem kB_list_bool : kitB "list" "bool" = some false := by decide +kernel
theorem kB_list_str : kitB "list" "str" = some false := by decide +kernel
theorem kB_list_tuple : kitB "list" "tuple" = some false := by decide +kernel
theorem kB_list_list : kitB "list" "list" = some true := by decide +kernel
theorem kB_tuple_int : kitB "tuple" "int" = some false := by decide +kernel
theorem kB_tuple_bool : kitB "tuple" "bool" = some false := by decide +kernel
theorem kB_tuple_str : kitB "tuple" "str" = some false := by decide +kernel
theorem kB_tuple_tuple : kitB "tuple" "tuple" = some true := by decide +kernel
theorem kB_tuple_list : kitB "tuple" "list" = some false := by decide +kernel
theorem r_eqNil1 {K : PySem.W.Frag} {H : Hp} {Q : VK} {a p : Addr} {d : PyData} {ds : List PyData} (h : Dp K H (.ref a) (.tuple (d :: ds))) (h0 : SqT K H p []) (s : SeqAt.shaped (.tuple (d :: ds)) = true) (q : Q (.bl false) H) : rEqD K (.ref a) (.ref p) H Q :=
  r_eqD h (Dp.tup h0 .nil) s rfl q
theorem r_eqNil0 {K : PySem.W.Frag} {H : Hp} {Q : VK} {a p : Addr} (h : Dp K H (.ref a) (.tuple [])) (h0 : SqT K H p []) (q : Q (.bl true) H) : rEqD K (.ref a) (.ref p) H Q :=
  r_eqD h (Dp.tup h0 .nil) rfl rfl q
theorem r_eqNil {K : PySem.W.Frag} {H : Hp} {Q : VK} {a p : Addr} {ds : List PyData} (h : Dp K H (.ref a) (.tuple ds)) (h0 : SqT K H p []) (s : SeqAt.shaped (.tuple ds) = true) (q : Q (.bl ds.isEmpty) H) : rEqD K (.ref a) (.ref p) H Q :=
  r_eqD h (Dp.tup h0 .nil) s rfl (by cases ds <;> exact q)
theorem decStr {x y : Str} (h : x = y) : decide (V.str x = V.str y) = true := by subst h; simp
theorem decStrN {x y : Str} (h : ¬ x = y) : decide (V.str x = V.str y) = false := decide_eq_false fun z => h (V.str.inj z)
theorem shaped_tup {ds : List PyData} : SeqAt.shaped (.tuple ds) = (PyData.canLayAll0 ds && decide (PyData.depthAll ds + 1 ≤ 64)) := by
  unfold SeqAt.shaped
  simp [PyData.canLay0, PyData.depth]
theorem shaped_mem : ∀ {ds : List PyData}, PyData.canLayAll0 ds = true → PyData.depthAll ds + 1 ≤ 64 → ∀ d ∈ ds, SeqAt.shaped d = true
  | [], _, _, d, h => by simp at h
  | x :: xs, h1, h2, d, h => by
    simp only [PyData.canLayAll0, Bool.and_eq_true] at h1
    simp only [PyData.depthAll] at h2
    rcases List.mem_cons.mp h with rfl | h
    · unfold SeqAt.shaped; rw [h1.1]; simp; omega
    · exact shaped_mem h1.2 (by omega) d h
theorem at0 {α : Type} {a : α} {r : List α} : atI (a :: r) 0 = some a := atI_nat (j := 0) rfl
theorem at1 {α : Type} {a b : α} {r : List α} : atI (a :: b :: r) 1 = some b := atI_nat (j := 1) rfl
theorem at2 {α : Type} {a b c : α} {r : List α} : atI (a :: b :: c :: r) 2 = some c := atI_nat (j := 2) rfl
theorem at3 {α : Type} {a b c d : α} {r : List α} : atI (a :: b :: c :: d :: r) 3 = some d := atI_nat (j := 3) rfl
theorem se_ne : ¬ (("scale" : Str) = "even") := by decide +kernel
theorem es_ne : ¬ (("even" : Str) = "scale") := by decide +kernel

/-! ### loops -/
def FLoop (J : It) (g : TG) (tb : TS) (D : Ends) (σ : St) (H : Hp) : Prop := ∃ W : Nat → Nat → St → Hp → Prop, (∃ m, W 0 m σ H) ∧ ∀ i m σ H, W i m σ H →
  (J.stop i H ∧ D.nx σ H) ∨ (J.go i H ∧ ∃ N : St → Hp → Prop, (∀ σ' H', N σ' H' → ∃ m', m' < m ∧ W (i + 1) m' σ' H') ∧ ∀ x H', J.yld i H x H' → g x σ H' fun σ2 H2 => tb { D with nx := N, ct := N, bk := D.nx } σ2 H2)
def LLoop (J : It) (g : TG) (tt : TT) (te : TE) (vs : List Nat) (σ : St) (H1 : Hp) (Q : VK) : Prop := ∀ D, H1 D = none → ∃ W : Nat → Nat → Hp → Prop, (∃ m, W 0 m (L2.upd H1 D (.lst []))) ∧ ∀ i m H, W i m H →
  (J.stop i H ∧ Q (.ref D) H) ∨ (J.go i H ∧ ∃ Nx : Hp → Prop, (∀ H', Nx H' → ∃ m', m' < m ∧ W (i + 1) m' H') ∧ ∀ x H', J.yld i H x H' → g x (wipe σ vs) H' fun σ2 H2 => wipe σ2 vs = wipe σ vs ∧ tt σ2 H2 fun b H3 =>
    if b = true then te σ2 H3 fun y H4 => ∃ acc, H4 D = some (.lst acc) ∧ acc.length < sizeLine ∧ Nx (L2.upd H4 D (.lst (acc ++ [y]))) else Nx H3)
def nItl (K : PySem.W.Frag) (x : V) (H1 : Hp) (R : It → Hp → Prop) : Prop := ∃ a, x = .ref a ∧ (∃ xs, SqL K H1 a xs) ∧ R (Itl K a) H1
def nItt (K : PySem.W.Frag) (x : V) (H1 : Hp) (R : It → Hp → Prop) : Prop := ∃ a, x = .ref a ∧ (∃ xs, SqT K H1 a xs) ∧ R (Itt K a) H1
def nRng1 (vs : List V) (H1 : Hp) (R : It → Hp → Prop) : Prop := ∃ j : Int, vs = [.int j] ∧ -(2 ^ 62) ≤ j ∧ j < 2 ^ 62 ∧ R (Itr 0 j.toNat) H1
def nRng2 (vs : List V) (H1 : Hp) (R : It → Hp → Prop) : Prop := ∃ i j : Int, vs = [.int i, .int j] ∧ (-(2 ^ 62) ≤ i ∧ i < 2 ^ 62 ∧ -(2 ^ 62) ≤ j ∧ j < 2 ^ 62) ∧ R (Itr i (j - i).toNat) H1
section
variable {K : PySem.W.Frag} {σ : St} {H : Hp} {Q : VK} {te : TE} {g : TG} {tb : TS} {D : Ends} {wi : TI} {tt : TT} {vs : List Nat} {R : It → Hp → Prop} {ta : TA}
theorem s_for (h : wi σ H fun J H1 => FLoop J g tb D σ H1) : tFor wi g tb D σ H := h
theorem s_lc (h : wi σ H fun J H1 => LLoop J g tt te vs σ H1 Q) : tLc wi g tt te vs σ H Q := h
theorem i_list (h : te σ H fun x H1 => nItl K x H1 R) : iList K te σ H R := h
theorem i_tup (h : te σ H fun x H1 => nItt K x H1 R) : iTup K te σ H R := h
theorem i_rng1 (h : ta σ H fun vs H1 => nRng1 vs H1 R) : iRng1 ta σ H R := h
theorem i_rng2 (h : ta σ H fun vs H1 => nRng2 vs H1 R) : iRng2 ta σ H R := h
theorem i_l {a : Addr} {xs : List V} (e : SqL K H a xs) (h : R (Itl K a) H) : nItl K (.ref a) H R := ⟨a, rfl, ⟨_, e⟩, h⟩
theorem i_t {a : Addr} {xs : List V} (e : SqT K H a xs) (h : R (Itt K a) H) : nItt K (.ref a) H R := ⟨a, rfl, ⟨_, e⟩, h⟩
theorem i_r1 {j : Int} (b : -4611686018427387904 ≤ j ∧ j < 4611686018427387904) (h : R (Itr 0 j.toNat) H) : nRng1 [.int j] H R := ⟨j, rfl, b.1, b.2, h⟩
theorem i_r2 {i j : Int} (b : -4611686018427387904 ≤ i ∧ i < 4611686018427387904 ∧ -4611686018427387904 ≤ j ∧ j < 4611686018427387904) (h : R (Itr i (j - i).toNat) H) : nRng2 [.int i, .int j] H R := ⟨i, j, rfl, b, h⟩
theorem fl_range {lo : Int} {n : Nat} (Pv : Nat → St → Hp → Prop) (h0 : Pv 0 σ H)
    (hs : ∀ i σ H, i < n → Pv i σ H → g (.int (lo + i)) σ H fun σ2 H2 => tb { D with nx := Pv (i + 1), ct := Pv (i + 1), bk := D.nx } σ2 H2) (hd : ∀ σ H, Pv n σ H → D.nx σ H) : FLoop (Itr lo n) g tb D σ H := for_range Pv h0 hs hd
theorem fl_list {a : Addr} {xs : List V} (Pv : Nat → St → Hp → Prop) (h0 : Pv 0 σ H) (hl : ∀ i σ H, i ≤ xs.length → Pv i σ H → SqL K H a xs)
    (hs : ∀ i x σ H, xs[i]? = some x → Pv i σ H → g x σ H fun σ2 H2 => tb { D with nx := Pv (i + 1), ct := Pv (i + 1), bk := D.nx } σ2 H2) (hd : ∀ σ H, Pv xs.length σ H → D.nx σ H) : FLoop (Itl K a) g tb D σ H := for_list Pv h0 hl hs hd
theorem fl_tup {a : Addr} {xs : List V} (Pv : Nat → St → Hp → Prop) (h0 : Pv 0 σ H) (hl : ∀ i σ H, i ≤ xs.length → Pv i σ H → SqT K H a xs)
    (hs : ∀ i x σ H, xs[i]? = some x → Pv i σ H → g x σ H fun σ2 H2 => tb { D with nx := Pv (i + 1), ct := Pv (i + 1), bk := D.nx } σ2 H2) (hd : ∀ σ H, Pv xs.length σ H → D.nx σ H) : FLoop (Itt K a) g tb D σ H := for_tup Pv h0 hl hs hd
end
/-! ### comprehensions that map: one value a place, the heap grows only -/
section
variable {K : PySem.W.Frag} {σ : St} {H : Hp} {Q : VK} {te : TE}
theorem ll_tup {α : Type} {i0 : Nat} {a : Addr} {xs : List V} {ys : List α} (f : α → V) (hS : SqT K H a xs) (hlen : xs.length = ys.length) (hsz : ys.length < 16777216)
    (hw : ∀ x, wipe ((wipe σ [i0]).set i0 (some x)) [i0] = wipe σ [i0])
    (hs : ∀ (i : Nat) (x : V) (y : α) (H' : Hp) (Q' : VK), xs[i]? = some x → ys[i]? = some y → Same H H' → (∀ H4, Same H' H4 → Q' (f y) H4) → te ((wipe σ [i0]).set i0 (some x)) H' Q')
    (hd : ∀ D H', Same H H' → H' D = some (.lst (ys.map f)) → H D = none → Q (.ref D) H') : LLoop (Itt K a) (gName i0) tYes te [i0] σ H Q := by
  refine fun D hD => lc_tup (K := K) (a := a) (xs := xs) (fun i H' => Same H H' ∧ H' D = some (.lst ((ys.take i).map f))) ⟨Same.up (Same.refl _) hD, upd_same⟩ (fun i H' _ h => SqT.same h.1 hS) (fun i x H' hx h => ?_) (fun H' h => ?_)
  · obtain ⟨h1, h2⟩ := h
    have hi : i < ys.length := by rw [← hlen]; exact (List.getElem?_eq_some_iff.mp hx).1
    refine ⟨hw x, ?_⟩
    show te _ H' _
    refine hs i x ys[i] H' _ hx (List.getElem?_eq_getElem hi) h1 fun H4 h4 => ⟨_, h4 _ _ h2, ?_, Same.upN (h1.trans h4) hD, ?_⟩
    · rw [List.length_map, List.length_take, PySem.sizeLine_eq]; omega
    · rw [upd_same, List.take_add_one, List.getElem?_eq_getElem hi, List.map_append]; rfl
  · obtain ⟨h1, h2⟩ := h
    refine hd D H' h1 ?_ hD
    rw [h2, hlen, List.take_length]
theorem ll_list {α : Type} {i0 : Nat} {a : Addr} {xs : List V} {ys : List α} (f : α → V) (hS : SqL K H a xs) (hlen : xs.length = ys.length) (hsz : ys.length < 16777216)
    (hw : ∀ x, wipe ((wipe σ [i0]).set i0 (some x)) [i0] = wipe σ [i0])
    (hs : ∀ (i : Nat) (x : V) (y : α) (H' : Hp) (Q' : VK), xs[i]? = some x → ys[i]? = some y → Same H H' → (∀ H4, Same H' H4 → Q' (f y) H4) → te ((wipe σ [i0]).set i0 (some x)) H' Q')
    (hd : ∀ D H', Same H H' → H' D = some (.lst (ys.map f)) → H D = none → Q (.ref D) H') : LLoop (Itl K a) (gName i0) tYes te [i0] σ H Q := by
  refine fun D hD => lc_list (K := K) (a := a) (xs := xs) (fun i H' => Same H H' ∧ H' D = some (.lst ((ys.take i).map f))) ⟨Same.up (Same.refl _) hD, upd_same⟩ (fun i H' _ h => SqL.same h.1 hS) (fun i x H' hx h => ?_) (fun H' h => ?_)
  · obtain ⟨h1, h2⟩ := h
    have hi : i < ys.length := by rw [← hlen]; exact (List.getElem?_eq_some_iff.mp hx).1
    refine ⟨hw x, ?_⟩
    show te _ H' _
    refine hs i x ys[i] H' _ hx (List.getElem?_eq_getElem hi) h1 fun H4 h4 => ⟨_, h4 _ _ h2, ?_, Same.upN (h1.trans h4) hD, ?_⟩
    · rw [List.length_map, List.length_take, PySem.sizeLine_eq]; omega
    · rw [upd_same, List.take_add_one, List.getElem?_eq_getElem hi, List.map_append]; rfl
  · obtain ⟨h1, h2⟩ := h
    refine hd D H' h1 ?_ hD
    rw [h2, hlen, List.take_length]
/-- over a range that is walked: f gives the i-th value -/
theorem ll_range {i0 : Nat} {lo : Int} {n : Nat} (f : Nat → V) (hsz : n < 16777216) (hw : ∀ x, wipe ((wipe σ [i0]).set i0 (some x)) [i0] = wipe σ [i0])
    (hs : ∀ (i : Nat) (H' : Hp) (Q' : VK), i < n → Same H H' → (∀ H4, Same H' H4 → Q' (f i) H4) → te ((wipe σ [i0]).set i0 (some (.int (lo + i)))) H' Q')
    (hd : ∀ D H', Same H H' → H' D = some (.lst ((List.range n).map f)) → H D = none → Q (.ref D) H') : LLoop (Itr lo n) (gName i0) tYes te [i0] σ H Q := by
  refine fun D hD => lc_range (lo := lo) (n := n) (fun i H' => Same H H' ∧ H' D = some (.lst ((List.range i).map f))) ⟨Same.up (Same.refl _) hD, upd_same⟩ (fun i H' hi h => ?_) (fun H' h => ?_)
  · obtain ⟨h1, h2⟩ := h
    refine ⟨hw _, ?_⟩
    show te _ H' _
    refine hs i H' _ hi h1 fun H4 h4 => ⟨_, h4 _ _ h2, ?_, Same.upN (h1.trans h4) hD, ?_⟩
    · rw [List.length_map, List.length_range, PySem.sizeLine_eq]; omega
    · rw [upd_same, List.range_succ, List.map_append]; rfl
  · obtain ⟨h1, h2⟩ := h
    exact hd D H' h1 h2 hD
end
theorem HAt.same {H H' : Hp} {a : Addr} {o : HO} (e : Same H H') (h : H a = some o) : H' a = some o := e _ _ h
section
variable {K : PySem.W.Frag} {H : Hp} {A : Prop}
theorem r_tyL {l : Addr} {xs : List V} (h : H l = some (.lst xs)) (q : A) : tyV K "list" (.ref l) H ∧ A := ⟨.inl ⟨rfl, _, SqL.of h⟩, q⟩
end

section
variable {H : Hp} {Q : VK} {σ : St} {K : PySem.W.Frag}
theorem r_p2 (h : Q (.int 100) H) : rI CPow (fun i j => .int (i ^ j.toNat)) (.int 10) (.int 2) H Q := ⟨10, 2, rfl, rfl, ⟨by decide, by decide, by decide⟩, h⟩
theorem r_p3 (h : Q (.int 1000) H) : rI CPow (fun i j => .int (i ^ j.toNat)) (.int 10) (.int 3) H Q := ⟨10, 3, rfl, rfl, ⟨by decide, by decide, by decide⟩, h⟩
theorem r_p4 (h : Q (.int 10000) H) : rI CPow (fun i j => .int (i ^ j.toNat)) (.int 10) (.int 4) H Q := ⟨10, 4, rfl, rfl, ⟨by decide, by decide, by decide⟩, h⟩
theorem r_p5 (h : Q (.int 100000) H) : rI CPow (fun i j => .int (i ^ j.toNat)) (.int 10) (.int 5) H Q := ⟨10, 5, rfl, rfl, ⟨by decide, by decide, by decide⟩, h⟩
theorem r_p6 (h : Q (.int 1000000) H) : rI CPow (fun i j => .int (i ^ j.toNat)) (.int 10) (.int 6) H Q := ⟨10, 6, rfl, rfl, ⟨by decide, by decide, by decide⟩, h⟩
theorem r_p7 (h : Q (.int 10000000) H) : rI CPow (fun i j => .int (i ^ j.toNat)) (.int 10) (.int 7) H Q := ⟨10, 7, rfl, rfl, ⟨by decide, by decide, by decide⟩, h⟩
theorem r_p8 (h : Q (.int 100000000) H) : rI CPow (fun i j => .int (i ^ j.toNat)) (.int 10) (.int 8) H Q := ⟨10, 8, rfl, rfl, ⟨by decide, by decide, by decide⟩, h⟩
theorem r_p9 (h : Q (.int 1000000000) H) : rI CPow (fun i j => .int (i ^ j.toNat)) (.int 10) (.int 9) H Q := ⟨10, 9, rfl, rfl, ⟨by decide, by decide, by decide⟩, h⟩
theorem r_p10 (h : Q (.int 10000000000) H) : rI CPow (fun i j => .int (i ^ j.toNat)) (.int 10) (.int 10) H Q := ⟨10, 10, rfl, rfl, ⟨by decide, by decide, by decide⟩, h⟩
theorem r_p12 (h : Q (.int 1000000000000) H) : rI CPow (fun i j => .int (i ^ j.toNat)) (.int 10) (.int 12) H Q := ⟨10, 12, rfl, rfl, ⟨by decide, by decide, by decide⟩, h⟩
theorem r_p15 (h : Q (.int 1000000000000000) H) : rI CPow (fun i j => .int (i ^ j.toNat)) (.int 10) (.int 15) H Q := ⟨10, 15, rfl, rfl, ⟨by decide, by decide, by decide⟩, h⟩
theorem r_p16 (h : Q (.int 10000000000000000) H) : rI CPow (fun i j => .int (i ^ j.toNat)) (.int 10) (.int 16) H Q := ⟨10, 16, rfl, rfl, ⟨by decide, by decide, by decide⟩, h⟩
theorem r_p17 (h : Q (.int 100000000000000000) H) : rI CPow (fun i j => .int (i ^ j.toNat)) (.int 10) (.int 17) H Q := ⟨10, 17, rfl, rfl, ⟨by decide, by decide, by decide⟩, h⟩
theorem r_p18 (h : Q (.int 1000000000000000000) H) : rI CPow (fun i j => .int (i ^ j.toNat)) (.int 10) (.int 18) H Q := ⟨10, 18, rfl, rfl, ⟨by decide, by decide, by decide⟩, h⟩
theorem cmul_b {i : Int} {b : Bool} : CMul i (if b = true then 1 else 0) := .inr (by cases b <;> decide)
theorem s_sub {to ti : TE} {t : TSet} {v : V} {Q : St → Hp → Prop} (h : to σ H fun o H1 => ti σ H1 fun i H2 => t o i v H2 fun H3 => Q σ H3) : gSub to ti t v σ H Q := h
theorem r_setL {p : Addr} {xs : List V} {k : Int} {j : Nat} {v : V} {Q : Hp → Prop} (h : H p = some (.lst xs)) (e : ixN xs.length k = some j) (q : Q (L2.upd H p (.lst (xs.set j v)))) : rSetL (.ref p) (.int k) v H Q := ⟨p, xs, k, j, rfl, rfl, h, e, q⟩
theorem s_while {c : TT} {tb : TS} {D : Ends} (Pv : Nat → St → Hp → Prop) (n0 : Nat) (h0 : Pv n0 σ H)
    (hs : ∀ n σ H, Pv n σ H → c σ H fun b H1 => if b = true then ∃ N : St → Hp → Prop, (∀ σ' H', N σ' H' → ∃ m', m' < n ∧ Pv m' σ' H') ∧ tb { D with nx := N, ct := N, bk := D.nx } σ H1 else D.nx σ H1) : tWhile c tb D σ H :=
  ⟨Pv, ⟨n0, h0⟩, hs⟩
end
end My

namespace My
open PySem L2
/-! ### steps and pipelines as data -/
inductive Step where
  | sc (k m c : Int)
  | ev (m : Int)
  deriving DecidableEq
def Step.ok : Step → Prop
  | .sc k m c => (1 ≤ k ∧ k ≤ 120) ∧ (1 ≤ m ∧ m ≤ 120) ∧ (-1000000000 ≤ c ∧ c ≤ 1000000000)
  | .ev m => 1 ≤ m ∧ m ≤ 60
def Step.per : Step → Int
  | .sc _ m _ => m
  | .ev m => if m % 2 = 0 then 2 * m else m
def Step.rise : Step → Int
  | .sc k _ _ => k
  | .ev m => if m % 2 = 0 then 2 else 1
/-- what is needed for the value -/
def Step.pos : Step → Prop
  | .sc k m _ => (1 ≤ k ∧ k ≤ 120) ∧ (1 ≤ m ∧ m ≤ 120)
  | .ev m => 1 ≤ m ∧ m ≤ 144
def Step.val : Step → Int → Int
  | .sc k m c, x => (k * x + c) / m
  | .ev m, x => if 2 * (x % m) = m then x / m + x / m % 2 else x / m + (if m < 2 * (x % m) then 1 else 0)
abbrev Pipe := List Step
def Pipe.val (p : Pipe) (x : Int) : Int := p.foldl (fun x s => s.val x) x
def Pipe.pos (p : Pipe) : Prop := ∀ s ∈ p, s.pos
theorem Step.ok.pos {s : Step} (h : s.ok) : s.pos := by
  cases s with
  | sc k m c => exact ⟨h.1, h.2.1⟩
  | ev m => exact ⟨h.1, Int.le_trans h.2 (by decide)⟩
def Step.cells : Step → List V
  | .sc k m c => [.str "scale", .int k, .int m, .int c]
  | .ev m => [.str "even", .int m]
def StepAt (K : PySem.W.Frag) (H : Hp) (v : V) (s : Step) : Prop := ∃ a, v = .ref a ∧ SqT K H a s.cells
def PipeAt (K : PySem.W.Frag) (H : Hp) (v : V) (p : Pipe) : Prop := ∃ a xs, v = .ref a ∧ SqT K H a xs ∧ Paired (StepAt K H) xs p
theorem StepAt.same {K : PySem.W.Frag} {H H' : Hp} {v : V} {s : Step} (e : Same H H') (h : StepAt K H v s) : StepAt K H' v s := by
  obtain ⟨a, q, h⟩ := h
  exact ⟨a, q, SqT.same e h⟩
theorem PipeAt.same {K : PySem.W.Frag} {H H' : Hp} {v : V} {p : Pipe} (e : Same H H') (h : PipeAt K H v p) : PipeAt K H' v p := by
  obtain ⟨a, xs, q, h, r⟩ := h
  exact ⟨a, xs, q, SqT.same e h, Paired.mapP r fun _ _ => StepAt.same e⟩
theorem StepAt.updL {K : PySem.W.Frag} {H : Hp} {v : V} {s : Step} {l : Addr} {ys : List V} {o : HO} (h : StepAt K H v s) (hl : H l = some (.lst ys)) : StepAt K (L2.upd H l o) v s := by
  obtain ⟨a, q, h⟩ := h
  exact ⟨a, q, SqT.updL h hl⟩
theorem PipeAt.updL {K : PySem.W.Frag} {H : Hp} {v : V} {p : Pipe} {l : Addr} {ys : List V} {o : HO} (h : PipeAt K H v p) (hl : H l = some (.lst ys)) : PipeAt K (L2.upd H l o) v p := by
  obtain ⟨a, xs, q, h, r⟩ := h
  exact ⟨a, xs, q, SqT.updL h hl, Paired.mapP r fun _ _ z => z.updL hl⟩
theorem Paired.get {α β : Type} {F : α → β → Prop} : ∀ {xs : List α} {ys : List β} {i : Nat} {x : α}, Paired F xs ys → xs[i]? = some x → ∃ y, ys[i]? = some y ∧ F x y
  | _, _, _, _, .nil, e => by simp at e
  | _, _, 0, _, .cons r _, e => by simp at e; subst e; exact ⟨_, rfl, r⟩
  | _, _, i + 1, x, .cons _ t, e => by
    obtain ⟨u, h1, h2⟩ := Paired.get (i := i) (x := x) t (by simpa using e)
    exact ⟨u, by simpa using h1, h2⟩
theorem Paired.len {α β : Type} {F : α → β → Prop} : ∀ {xs : List α} {ys : List β}, Paired F xs ys → xs.length = ys.length
  | _, _, .nil => rfl
  | _, _, .cons _ t => by simp [Paired.len t]
theorem Pipe.val_nil (x : Int) : Pipe.val [] x = x := rfl
theorem Pipe.val_cons (s : Step) (p : Pipe) (x : Int) : Pipe.val (s :: p) x = Pipe.val p (s.val x) := rfl
theorem Pipe.val_append (p q : Pipe) (x : Int) : Pipe.val (p ++ q) x = Pipe.val q (Pipe.val p x) := by simp [Pipe.val, List.foldl_append]
theorem take_succ_of {α : Type} {l : List α} {i : Nat} {x : α} (h : l[i]? = some x) : l.take (i + 1) = l.take i ++ [x] := by
  rw [List.take_add_one, h]; rfl
theorem Pipe.val_take {p : Pipe} {i : Nat} {s : Step} (h : p[i]? = some s) (x : Int) : Pipe.val (p.take (i + 1)) x = s.val (Pipe.val (p.take i) x) := by
  rw [take_succ_of h, Pipe.val_append]; rfl
/-- tuples stay -/
def TKeep (K : PySem.W.Frag) (H H' : Hp) : Prop := ∀ a xs, SqT K H a xs → SqT K H' a xs
theorem TKeep.refl {K : PySem.W.Frag} {H : Hp} : TKeep K H H := fun _ _ h => h
theorem TKeep.trans {K : PySem.W.Frag} {H H1 H2 : Hp} (a : TKeep K H H1) (b : TKeep K H1 H2) : TKeep K H H2 := fun c xs h => b c xs (a c xs h)
theorem TKeep.ofSame {K : PySem.W.Frag} {H H' : Hp} (a : Same H H') : TKeep K H H' := fun _ _ h => SqT.same a h
theorem TKeep.up {K : PySem.W.Frag} {H H1 : Hp} {p : Addr} {o : HO} (a : TKeep K H H1) (n : H1 p = none) : TKeep K H (L2.upd H1 p o) := a.trans (.ofSame (Same.up (Same.refl _) n))
theorem TKeep.upL {K : PySem.W.Frag} {H H1 : Hp} {p : Addr} {o : HO} {ys : List V} (a : TKeep K H H1) (n : H1 p = some (.lst ys)) : TKeep K H (L2.upd H1 p o) := a.trans fun _ _ h => SqT.updL h n
theorem StepAt.keep {K : PySem.W.Frag} {H H' : Hp} {v : V} {s : Step} (e : TKeep K H H') (h : StepAt K H v s) : StepAt K H' v s := by
  obtain ⟨a, q, h⟩ := h
  exact ⟨a, q, e _ _ h⟩
theorem PipeAt.keep {K : PySem.W.Frag} {H H' : Hp} {v : V} {p : Pipe} (e : TKeep K H H') (h : PipeAt K H v p) : PipeAt K H' v p := by
  obtain ⟨a, xs, q, h, r⟩ := h
  exact ⟨a, xs, q, e _ _ h, Paired.mapP r fun _ _ => StepAt.keep e⟩
theorem ev_ne_sc : decide (V.str "even" = V.str "scale") = false := by decide +kernel
theorem sc_ne_ev : decide (V.str "scale" = V.str "even") = false := by decide +kernel
theorem sc_eq : decide (V.str "scale" = V.str "scale") = true := by decide +kernel
theorem ev_eq : decide (V.str "even" = V.str "even") = true := by decide +kernel

/-! ### loops over pipelines -/
section
variable {K : PySem.W.Frag} {a : Addr} {xs : List V} {g : TG} {tb : TS} {D : Ends} {σ : St} {H H0 : Hp}
theorem fl_P {p : Pipe} (hS : SqT K H0 a xs) (hx : Paired (StepAt K H0) xs p) (Pv : Nat → St → Hp → Prop) (h0 : Pv 0 σ H) (hk : ∀ i σ H, Pv i σ H → TKeep K H0 H)
    (hs : ∀ i s v σ H, p[i]? = some s → s ∈ p → StepAt K H v s → Pv i σ H → g v σ H fun σ2 H2 => tb { D with nx := Pv (i + 1), ct := Pv (i + 1), bk := D.nx } σ2 H2) (hd : ∀ σ H, Pv p.length σ H → D.nx σ H) : FLoop (Itt K a) g tb D σ H := by
  refine fl_tup (xs := xs) Pv h0 (fun i σ H _ p => hk i σ H p _ _ hS) (fun i x σ H ex p => ?_) (by rw [Paired.len hx]; exact hd)
  obtain ⟨s, es, r⟩ := Paired.get hx ex
  exact hs i s x σ H es (List.mem_of_getElem? es) (r.keep (hk i σ H p)) p
end

/-! ### steps as data -/
def Step.data : Step → PyData
  | .sc k m c => .tuple [.str "scale", .int k, .int m, .int c]
  | .ev m => .tuple [.str "even", .int m]
def pipeD (p : Pipe) : PyData := .tuple (p.map Step.data)
def perD : PyData → Int
  | .tuple [.str _, .int _, .int m, .int _] => m
  | .tuple [.str _, .int m] => if m % 2 = 0 then 2 * m else m
  | _ => 1
def isPipeD : PyData → Bool
  | .tuple ds => decide (ds.length ≤ 6) && ds.all isStepD && decide ((ds.map perD).foldl (fun a b => a * b) 1 ≤ 120)
  | _ => false
def Pipe.prod (p : Pipe) : Int := (p.map Step.per).foldl (fun a b => a * b) 1
def Pipe.ok (p : Pipe) : Prop := p.length ≤ 6 ∧ (∀ s ∈ p, s.ok) ∧ p.prod ≤ 120
theorem Pipe.ok.pos {p : Pipe} (h : p.ok) : p.pos := fun s hs => (h.2.1 s hs).pos
theorem isIntD_elim {d : PyData} {lo hi : Int} (h : isIntD d lo hi = true) : ∃ i, d = .int i ∧ lo ≤ i ∧ i ≤ hi := by
  cases d with
  | int i => simp [isIntD] at h; exact ⟨i, rfl, h⟩
  | _ => simp [isIntD] at h
theorem isStepD_elim {d : PyData} (h : isStepD d = true) : ∃ s : Step, s.ok ∧ d = s.data := by
  unfold isStepD at h
  split at h
  · rename_i t r
    split at h
    · rename_i te
      subst te
      split at h
      · obtain ⟨i, rfl, h1, h2⟩ := isIntD_elim h
        exact ⟨.ev i, ⟨h1, h2⟩, rfl⟩
      · cases h
    · split at h
      · rename_i ts
        subst ts
        split at h
        · simp only [Bool.and_eq_true] at h
          obtain ⟨⟨h1, h2⟩, h3⟩ := h
          obtain ⟨i, rfl, g1⟩ := isIntD_elim h1
          obtain ⟨j, rfl, g2⟩ := isIntD_elim h2
          obtain ⟨l, rfl, g3⟩ := isIntD_elim h3
          exact ⟨.sc i j l, ⟨g1, g2, g3⟩, rfl⟩
        · cases h
      · cases h
  · cases h
theorem isStepD_data {s : Step} : isStepD s.data = true ↔ s.ok := by
  cases s with
  | sc k m c => simp [Step.data, isStepD, se_ne, isIntD, Step.ok, and_assoc]
  | ev m => simp [Step.data, isStepD, isIntD, Step.ok]
theorem perD_data (s : Step) : perD s.data = s.per := by cases s <;> rfl
theorem StepAt.dp {K : PySem.W.Frag} {H : Hp} {v : V} {s : Step} (h : StepAt K H v s) : Dp K H v s.data := by
  obtain ⟨a, rfl, h⟩ := h
  cases s with
  | sc k m c => exact .tup h (.cons (.str _) (.cons (.int _) (.cons (.int _) (.cons (.int _) .nil))))
  | ev m => exact .tup h (.cons (.str _) (.cons (.int _) .nil))
theorem StepAt.ofDp {K : PySem.W.Frag} {H : Hp} {v : V} {s : Step} (h : Dp K H v s.data) : StepAt K H v s := by
  cases s with
  | sc k m c =>
    cases h with
    | tup h a =>
      cases a with | cons h1 a => cases a with | cons h2 a => cases a with | cons h3 a => cases a with | cons h4 a =>
        cases a; cases h1; cases h2; cases h3; cases h4
        exact ⟨_, rfl, h⟩
  | ev m =>
    cases h with
    | tup h a =>
      cases a with | cons h1 a => cases a with | cons h2 a =>
        cases a; cases h1; cases h2
        exact ⟨_, rfl, h⟩
theorem dpAll_of {K : PySem.W.Frag} {H : Hp} : ∀ {xs : List V} {p : Pipe}, Paired (StepAt K H) xs p → DpAll K H xs (p.map Step.data)
  | _, _, .nil => .nil
  | _, _, .cons r t => .cons r.dp (dpAll_of t)
theorem ofDpAll {K : PySem.W.Frag} {H : Hp} : ∀ {p : Pipe} {xs : List V}, DpAll K H xs (p.map Step.data) → Paired (StepAt K H) xs p
  | [], _, .nil => .nil
  | _ :: _, _, .cons r t => .cons (StepAt.ofDp r) (ofDpAll t)
theorem PipeAt.dp {K : PySem.W.Frag} {H : Hp} {v : V} {p : Pipe} (h : PipeAt K H v p) : Dp K H v (pipeD p) := by
  obtain ⟨a, xs, rfl, h, r⟩ := h
  exact .tup h (dpAll_of r)
theorem PipeAt.ofDp {K : PySem.W.Frag} {H : Hp} {v : V} {p : Pipe} (h : Dp K H v (pipeD p)) : PipeAt K H v p := by
  cases h with
  | tup h a => exact ⟨_, _, rfl, h, ofDpAll a⟩
theorem steps_of : ∀ {ds : List PyData}, ds.all isStepD = true → ∃ p : Pipe, ds = p.map Step.data ∧ ∀ s ∈ p, s.ok
  | [], _ => ⟨[], rfl, by simp⟩
  | d :: ds, h => by
    simp only [List.all_cons, Bool.and_eq_true] at h
    obtain ⟨s, hs, rfl⟩ := isStepD_elim h.1
    obtain ⟨p, rfl, hp⟩ := steps_of h.2
    refine ⟨s :: p, rfl, fun t ht => ?_⟩
    rcases List.mem_cons.mp ht with rfl | ht
    · exact hs
    · exact hp t ht
theorem isPipeD_pipe {p : Pipe} : isPipeD (pipeD p) = true ↔ p.ok := by
  unfold isPipeD pipeD Pipe.ok Pipe.prod
  simp only [Bool.and_eq_true, decide_eq_true_eq, List.length_map, List.all_eq_true, List.map_map]
  have e : (perD ∘ Step.data) = Step.per := funext perD_data
  rw [e]
  constructor
  · rintro ⟨⟨h1, h2⟩, h3⟩
    exact ⟨h1, fun s hs => isStepD_data.mp (h2 _ (List.mem_map_of_mem hs)), h3⟩
  · rintro ⟨h1, h2, h3⟩
    refine ⟨⟨h1, fun d hd => ?_⟩, h3⟩
    obtain ⟨s, hs, rfl⟩ := List.mem_map.mp hd
    exact isStepD_data.mpr (h2 s hs)
theorem strOk_sc : PyData.canLay0 (.str "scale") = true := by decide +kernel
theorem strOk_ev : PyData.canLay0 (.str "even") = true := by decide +kernel
theorem step_lay (s : Step) : s.data.canLay0 = true ∧ s.data.depth ≤ 1 := by
  cases s with
  | sc k m c => simp [Step.data, PyData.canLay0, PyData.canLayAll0, PyData.depth, PyData.depthAll]; exact strOk_sc
  | ev m => simp [Step.data, PyData.canLay0, PyData.canLayAll0, PyData.depth, PyData.depthAll]; exact strOk_ev
theorem steps_lay : ∀ p : Pipe, PyData.canLayAll0 (p.map Step.data) = true ∧ PyData.depthAll (p.map Step.data) ≤ 1
  | [] => ⟨rfl, Nat.zero_le _⟩
  | s :: p => by
    have h1 := step_lay s
    have h2 := steps_lay p
    simp only [List.map_cons, PyData.canLayAll0, PyData.depthAll, h1.1, h2.1, Bool.and_self, true_and]
    omega
theorem shaped_step (s : Step) : SeqAt.shaped s.data = true := by
  have h := step_lay s
  unfold SeqAt.shaped
  rw [h.1]; simp; omega
theorem shaped_pipe (p : Pipe) : SeqAt.shaped (pipeD p) = true := by
  have h := steps_lay p
  unfold pipeD
  rw [shaped_tup, h.1]; simp; omega
theorem Step.per_pos {s : Step} (h : s.ok) : 1 ≤ s.per ∧ s.per ≤ 120 := by
  cases s with
  | sc k m c => exact h.2.1
  | ev m =>
    have h1 := h.1; have h2 := h.2
    unfold Step.per
    constructor <;> (dsimp only; split <;> omega)
theorem prod_take {p : Pipe} {i : Nat} {s : Step} (h : p[i]? = some s) : Pipe.prod (p.take (i + 1)) = Pipe.prod (p.take i) * s.per := by
  rw [take_succ_of h]; unfold Pipe.prod; simp [List.foldl_append]
end My
namespace My
open PySem L2
def Pipe.trace (p : Pipe) (x : Int) : List Int := match p with
  | [] => []
  | s :: p => s.val x :: Pipe.trace p (s.val x)
theorem Pipe.trace_length : ∀ (p : Pipe) (x : Int), (p.trace x).length = p.length
  | [], _ => rfl
  | s :: p, x => by simp [Pipe.trace, Pipe.trace_length p]
theorem Pipe.trace_append : ∀ (p q : Pipe) (x : Int), Pipe.trace (p ++ q) x = Pipe.trace p x ++ Pipe.trace q (Pipe.val p x)
  | [], _, _ => rfl
  | s :: p, q, x => by
    show s.val x :: Pipe.trace (p ++ q) (s.val x) = s.val x :: (Pipe.trace p (s.val x) ++ Pipe.trace q (Pipe.val p (s.val x)))
    rw [Pipe.trace_append p q]
theorem Pipe.trace_take {p : Pipe} {i : Nat} {s : Step} (h : p[i]? = some s) (x : Int) : Pipe.trace (p.take (i + 1)) x = Pipe.trace (p.take i) x ++ [s.val (Pipe.val (p.take i) x)] := by
  rw [take_succ_of h, Pipe.trace_append]; rfl
end My
namespace My
open PySem L2
/-! ### facts, a hop back -/
section
variable {K : PySem.W.Frag} {H H' : Hp} {a l p b d : Addr} {o u : HO} {xs ys : List V} {v : V} {s : Step} {q : Pipe} {dd : PyData}
theorem SqT.hs (e : Same H H') (h : SqT K H a xs) : SqT K H' a xs := SqT.same e h
theorem SqT.hu (n : H p = none) (h : SqT K H a xs) : SqT K (L2.upd H p o) a xs := SqT.same (Same.up (Same.refl _) n) h
theorem SqT.hl (n : H p = some (.lst ys)) (h : SqT K H a xs) : SqT K (L2.upd H p o) a xs := SqT.updL h n
theorem SqL.hs (e : Same H H') (h : SqL K H a xs) : SqL K H' a xs := SqL.same e h
theorem SqL.hu (n : H p = none) (h : SqL K H a xs) : SqL K (L2.upd H p o) a xs := SqL.same (Same.up (Same.refl _) n) h
theorem StepAt.hs (e : Same H H') (h : StepAt K H v s) : StepAt K H' v s := StepAt.same e h
theorem StepAt.hu (n : H p = none) (h : StepAt K H v s) : StepAt K (L2.upd H p o) v s := StepAt.same (Same.up (Same.refl _) n) h
theorem StepAt.hl (n : H p = some (.lst ys)) (h : StepAt K H v s) : StepAt K (L2.upd H p o) v s := StepAt.updL h n
theorem PipeAt.hs (e : Same H H') (h : PipeAt K H v q) : PipeAt K H' v q := PipeAt.same e h
theorem PipeAt.hu (n : H p = none) (h : PipeAt K H v q) : PipeAt K (L2.upd H p o) v q := PipeAt.same (Same.up (Same.refl _) n) h
theorem PipeAt.hl (n : H p = some (.lst ys)) (h : PipeAt K H v q) : PipeAt K (L2.upd H p o) v q := PipeAt.updL h n
theorem Dp.hs (e : Same H H') (h : Dp K H v dd) : Dp K H' v dd := Dp.same e h
theorem Dp.hu (n : H p = none) (h : Dp K H v dd) : Dp K (L2.upd H p o) v dd := Dp.same (Same.up (Same.refl _) n) h
theorem HAt.hs (e : Same H H') (h : H a = some u) : H' a = some u := e _ _ h
theorem HAt.hu (n : H p = none) (h : H a = some u) : L2.upd H p o a = some u := by rw [upd_ne (ne_of_none h n)]; exact h
theorem HAt.hn (n : a ≠ p) (h : H a = some u) : L2.upd H p o a = some u := by rw [upd_ne n]; exact h

/-! ### the bag of draws -/
structure BagAt (H : Hp) (b d : Addr) : Prop where
  ne : d ≠ b
  ex : ∃ (n : Int) (ds : List Int), H b = some (.lst [.ref d, .int n]) ∧ H d = some (.lst (ds.map V.int)) ∧ ds.length = 400 ∧ (∀ z ∈ ds, 0 ≤ z) ∧ 0 ≤ n
structure Bs (K : PySem.W.Frag) (b d : Addr) (H H' : Hp) : Prop where
  off : ∀ a o, a ≠ b → H a = some o → H' a = some o
  keep : TKeep K H H'
  bag : BagAt H' b d
theorem BagAt.atb (h : BagAt H b d) : ∃ o, H b = some o := by obtain ⟨_, _, _, e, _⟩ := h; exact ⟨_, e⟩
theorem BagAt.atd (h : BagAt H b d) : ∃ o, H d = some o := by obtain ⟨_, _, _, _, e, _⟩ := h; exact ⟨_, e⟩
theorem BagAt.neb (h : BagAt H b d) (n : H l = none) : l ≠ b := by
  obtain ⟨o, e⟩ := h.atb
  exact (ne_of_none e n).symm
theorem BagAt.ned (h : BagAt H b d) (n : H l = none) : l ≠ d := by
  obtain ⟨o, e⟩ := h.atd
  exact (ne_of_none e n).symm
theorem BagAt.keep (h : BagAt H b d) (eb : ∀ o, H b = some o → H' b = some o) (ed : ∀ o, H d = some o → H' d = some o) : BagAt H' b d := by
  obtain ⟨ne, n, ds, h1, h2, r⟩ := h
  exact ⟨ne, n, ds, eb _ h1, ed _ h2, r⟩
theorem BagAt.hs (e : Same H H') (h : BagAt H b d) : BagAt H' b d := h.keep (e _) (e _)
theorem BagAt.hu (n : H p = none) (h : BagAt H b d) : BagAt (L2.upd H p o) b d := h.hs (Same.up (Same.refl _) n)
theorem BagAt.hn (nb : p ≠ b) (nd : p ≠ d) (h : BagAt H b d) : BagAt (L2.upd H p o) b d := h.keep (fun _ e => HAt.hn nb.symm e) (fun _ e => HAt.hn nd.symm e)
theorem Bs.refl (h : BagAt H b d) : Bs K b d H H := ⟨fun _ _ _ e => e, TKeep.refl, h⟩
theorem Bs.trans {H1 : Hp} (x : Bs K b d H H1) (y : Bs K b d H1 H') : Bs K b d H H' := ⟨fun a o n e => y.off a o n (x.off a o n e), x.keep.trans y.keep, y.bag⟩
theorem Bs.hs {H1 : Hp} (e : Same H1 H') (x : Bs K b d H H1) : Bs K b d H H' := ⟨fun a o n q => e _ _ (x.off a o n q), x.keep.trans (.ofSame e), x.bag.hs e⟩
theorem Bs.hu {H1 : Hp} (n : H1 p = none) (x : Bs K b d H H1) : Bs K b d H (L2.upd H1 p o) := x.hs (Same.up (Same.refl _) n)
theorem Bs.hb {H1 : Hp} (y : Bs K b d H1 H') (x : Bs K b d H H1) : Bs K b d H H' := x.trans y
/-- a list of ours is written -/
theorem Bs.hl {H1 : Hp} (n : H l = none) (hl : H1 l = some (.lst ys)) (h : BagAt H b d) (x : Bs K b d H H1) : Bs K b d H (L2.upd H1 l o) :=
  ⟨fun a o' na e => HAt.hn (ne_of_none e n) (x.off a o' na e), x.keep.upL hl, x.bag.hn (h.neb n) (h.ned n)⟩
theorem Bs.free (x : Bs K b d H H') (n : H' l = none) : H l = none := by
  cases q : H l with
  | none => rfl
  | some o =>
    by_cases e : l = b
    · subst e
      obtain ⟨o', e'⟩ := x.bag.atb
      rw [n] at e'; cases e'
    · rw [x.off l o e q] at n; cases n
theorem SqT.hb (e : Bs K b d H H') (h : SqT K H a xs) : SqT K H' a xs := e.keep _ _ h
theorem StepAt.hb (e : Bs K b d H H') (h : StepAt K H v s) : StepAt K H' v s := StepAt.keep e.keep h
theorem PipeAt.hb (e : Bs K b d H H') (h : PipeAt K H v q) : PipeAt K H' v q := PipeAt.keep e.keep h
theorem HAt.hb (e : Bs K b d H H') (n : a ≠ b) (h : H a = some u) : H' a = some u := e.off _ _ n h
theorem SqL.hb (e : Bs K b d H H') (n : a ≠ b) (h : SqL K H a xs) : SqL K H' a xs := by
  rcases h with (h | ⟨ob, h⟩) | h
  · exact .inl (.inl (e.off _ _ n h))
  · exact .inl (.inr ⟨ob, e.off _ _ n h⟩)
  · exact .inr h
end
end My
namespace My
open PySem L2
/-! ### the bags of a law -/
structure BagsAt (H : Hp) (q : Addr) (bs : List (Addr × Addr)) : Prop where
  lst : H q = some (.lst (bs.map fun p => .ref p.1))
  bag : ∀ p ∈ bs, BagAt H p.1 p.2
  apart : bs.Pairwise fun p r => r.1 ≠ p.1 ∧ r.2 ≠ p.1
  nq : ∀ p ∈ bs, q ≠ p.1
theorem fl_bags {K : PySem.W.Frag} {q : Addr} {bs : List (Addr × Addr)} {g : TG} {tb : TS} {D : Ends} {σ : St} {H : Hp} (hB : BagsAt H q bs) (S : St → Prop) (h0 : S σ)
    (hs : ∀ b d σ' H', S σ' → BagAt H' b d → g (.ref b) σ' H' fun σ2 H2 => tb { D with nx := fun σ3 H3 => Bs K b d H' H3 ∧ S σ3, ct := fun σ3 H3 => Bs K b d H' H3 ∧ S σ3, bk := D.nx } σ2 H2)
    (hd : ∀ σ' H', S σ' → D.nx σ' H') : FLoop (Itl K q) g tb D σ H := by
  obtain ⟨hl, hb, ha, hq⟩ := hB
  refine ⟨fun i m σ' H' => m = bs.length - i ∧ i ≤ bs.length ∧ S σ' ∧ H' q = some (.lst (bs.map fun p => .ref p.1)) ∧ ∀ p ∈ bs.drop i, BagAt H' p.1 p.2, ⟨_, rfl, Nat.zero_le _, h0, hl, fun p hp => hb p (List.mem_of_mem_drop hp)⟩, ?_⟩
  rintro i m σ' H' ⟨rfl, hi, hS, hl', hb'⟩
  have hL : SqL K H' q (bs.map fun p => .ref p.1) := SqL.of hl'
  by_cases hlt : i < bs.length
  · have hx : (bs.map fun p => V.ref p.1)[i]? = some (.ref bs[i].1) := by rw [List.getElem?_map, List.getElem?_eq_getElem hlt]; rfl
    have hd' : bs.drop i = bs[i] :: bs.drop (i + 1) := List.drop_eq_getElem_cons hlt
    refine .inr ⟨⟨_, _, hL, hx⟩, fun σ3 H3 => Bs K bs[i].1 bs[i].2 H' H3 ∧ S σ3, ?_, ?_⟩
    · rintro σ3 H3 ⟨hB, hS3⟩
      refine ⟨bs.length - (i + 1), by omega, rfl, hlt, hS3, hB.off _ _ (hq _ (List.getElem_mem hlt)) hl', fun p hp => ?_⟩
      have hpm : p ∈ bs.drop i := by rw [hd']; exact List.mem_cons_of_mem _ hp
      have hap : p.1 ≠ bs[i].1 ∧ p.2 ≠ bs[i].1 := by
        have h1 : (bs.drop i).Pairwise fun p r => r.1 ≠ p.1 ∧ r.2 ≠ p.1 := List.Pairwise.sublist (List.drop_sublist i bs) ha
        rw [hd', List.pairwise_cons] at h1
        exact h1.1 p hp
      exact (hb' p hpm).keep (fun _ e => hB.off _ _ hap.1 e) (fun _ e => hB.off _ _ hap.2 e)
    · rintro x H2 ⟨rfl, hx2⟩
      have ex : x = .ref bs[i].1 := Option.some.inj ((hx2 _ hL).symm.trans hx)
      subst ex
      exact hs _ _ σ' _ hS (hb' _ (by rw [hd']; exact List.mem_cons_self))
  · refine .inl ⟨⟨_, hL, by rw [List.length_map]; omega⟩, hd σ' H' hS⟩
theorem pick3 {a b c r : Int} (h0 : 0 ≤ r) (h1 : r < 3) {lo hi : Int} (ha : lo ≤ a ∧ a ≤ hi) (hb : lo ≤ b ∧ b ≤ hi) (hc : lo ≤ c ∧ c ≤ hi) : ∃ z, atI [V.int a, V.int b, V.int c] r = some (.int z) ∧ lo ≤ z ∧ z ≤ hi := by
  rcases (show r = 0 ∨ r = 1 ∨ r = 2 by omega) with rfl | rfl | rfl
  · exact ⟨a, rfl, ha⟩
  · exact ⟨b, rfl, hb⟩
  · exact ⟨c, rfl, hc⟩
theorem pick4 {a b c e r : Int} (h0 : 0 ≤ r) (h1 : r < 4) {lo hi : Int} (ha : lo ≤ a ∧ a ≤ hi) (hb : lo ≤ b ∧ b ≤ hi) (hc : lo ≤ c ∧ c ≤ hi) (he : lo ≤ e ∧ e ≤ hi) : ∃ z, atI [V.int a, V.int b, V.int c, V.int e] r = some (.int z) ∧ lo ≤ z ∧ z ≤ hi := by
  rcases (show r = 0 ∨ r = 1 ∨ r = 2 ∨ r = 3 by omega) with rfl | rfl | rfl | rfl
  · exact ⟨a, rfl, ha⟩
  · exact ⟨b, rfl, hb⟩
  · exact ⟨c, rfl, hc⟩
  · exact ⟨e, rfl, he⟩
theorem emod_b {x m : Int} (h : 0 < m) : 0 ≤ x % m ∧ x % m < m := ⟨Int.emod_nonneg _ (by omega), Int.emod_lt_of_pos _ h⟩
end My
namespace My
open PySem L2
theorem r_pick3 {K : PySem.W.Frag} {H : Hp} {Q : VK} {p : Addr} {a b c r : Int} {lo hi : Int} (h : SqL K H p [.int a, .int b, .int c]) (h0 : 0 ≤ r) (h1 : r < 3) (ha : lo ≤ a ∧ a ≤ hi) (hb : lo ≤ b ∧ b ≤ hi) (hc : lo ≤ c ∧ c ≤ hi)
    (q : ∀ z, lo ≤ z → z ≤ hi → Q (.int z) H) : rIxL K (.ref p) (.int r) H Q := by
  obtain ⟨z, hz, z0, z1⟩ := pick3 h0 h1 ha hb hc
  exact r_ixL h hz (q z z0 z1)
theorem r_pick4 {K : PySem.W.Frag} {H : Hp} {Q : VK} {p : Addr} {a b c e r : Int} {lo hi : Int} (h : SqL K H p [.int a, .int b, .int c, .int e]) (h0 : 0 ≤ r) (h1 : r < 4) (ha : lo ≤ a ∧ a ≤ hi) (hb : lo ≤ b ∧ b ≤ hi) (hc : lo ≤ c ∧ c ≤ hi) (he : lo ≤ e ∧ e ≤ hi)
    (q : ∀ z, lo ≤ z → z ≤ hi → Q (.int z) H) : rIxL K (.ref p) (.int r) H Q := by
  obtain ⟨z, hz, z0, z1⟩ := pick4 h0 h1 ha hb hc he
  exact r_ixL h hz (q z z0 z1)
end My
namespace My
open PySem L2
theorem NEb {H : Hp} {l b d : Addr} (n : H l = none) (h : BagAt H b d) : l ≠ b := h.neb n
theorem NEd {H : Hp} {l b d : Addr} (n : H l = none) (h : BagAt H b d) : l ≠ d := h.ned n
end My
namespace My
open PySem L2
theorem r_yes {σ : St} {H : Hp} {Q : Bool → Hp → Prop} (h : Q true H) : tYes σ H Q := h
theorem Pipe.prod_nil : Pipe.prod [] = 1 := rfl
theorem Pipe.prod_snoc (p : Pipe) (s : Step) : Pipe.prod (p ++ [s]) = Pipe.prod p * s.per := by unfold Pipe.prod; simp [List.foldl_append]
theorem foldl_mul (l : List Int) : ∀ a : Int, l.foldl (fun a b => a * b) a = a * l.foldl (fun a b => a * b) 1 := by
  induction l with
  | nil => intro a; simp
  | cons x r ih => intro a; simp only [List.foldl_cons]; rw [ih (a * x), ih (1 * x), Int.one_mul, Int.mul_assoc]
theorem Pipe.prod_cons (p : Pipe) (s : Step) : Pipe.prod (s :: p) = s.per * Pipe.prod p := by
  unfold Pipe.prod
  simp only [List.map_cons, List.foldl_cons]
  rw [foldl_mul]
  simp
theorem one_le_mul {a b : Int} (h : 1 ≤ a) (h' : 1 ≤ b) : 1 ≤ a * b := by
  have := Int.mul_le_mul h h' (by omega) (by omega)
  simpa using this
theorem le_of_mul_le_r {a b c : Int} (h : 1 ≤ a) (h' : 0 ≤ b) (e : a * b ≤ c) : b ≤ c := by
  have := Int.mul_le_mul_of_nonneg_right h h'
  omega
theorem Pipe.prod_pos : ∀ {p : Pipe}, (∀ s ∈ p, s.ok) → 1 ≤ p.prod
  | [], _ => by decide
  | s :: p, h => by
    rw [Pipe.prod_cons]
    exact one_le_mul (Step.per_pos (h s (by simp))).1 (Pipe.prod_pos fun t ht => h t (by simp [ht]))
theorem prod_step {q a e l : Int} (hq : 1 ≤ q) (he : 1 ≤ e) (h : q * a ≤ l) : q * e * (a / e) ≤ l := by
  have h1 : e * (a / e) ≤ a := Int.mul_ediv_self_le (by omega)
  have h2 : q * (e * (a / e)) ≤ q * a := Int.mul_le_mul_of_nonneg_left h1 (by omega)
  rw [Int.mul_assoc]; omega
theorem one_le_div {a e : Int} (he : 1 ≤ e) (h : e ≤ a) : 1 ≤ a / e := by
  rw [Int.le_ediv_iff_mul_le (by omega)]; omega
end My
namespace My
theorem Paired.snoc {α β : Type} {F : α → β → Prop} : ∀ {xs : List α} {ys : List β} {x : α} {y : β}, PySem.Paired F xs ys → F x y → PySem.Paired F (xs ++ [x]) (ys ++ [y])
  | _, _, _, _, .nil, h => .cons h .nil
  | _, _, _, _, .cons r t, h => .cons r (Paired.snoc t h)
end My
namespace My
open PySem L2
/-! ### lists of ints compared -/
section
variable {K : PySem.W.Frag} {H : Hp} {Q : VK}
theorem dpAllInts : ∀ ns : List Int, DpAll K H (ns.map V.int) (ns.map PyData.int)
  | [] => .nil
  | n :: ns => .cons (.int n) (dpAllInts ns)
theorem dpInts {a : Addr} {ns : List Int} (h : SqL K H a (ns.map V.int)) : Dp K H (.ref a) (.list (ns.map PyData.int)) := .lst h (dpAllInts ns)
theorem dpIntsT {a : Addr} {ns : List Int} (h : SqT K H a (ns.map V.int)) : Dp K H (.ref a) (.tuple (ns.map PyData.int)) := .tup h (dpAllInts ns)
theorem lay_ints : ∀ ns : List Int, PyData.canLayAll0 (ns.map PyData.int) = true ∧ PyData.depthAll (ns.map PyData.int) = 0
  | [] => ⟨rfl, rfl⟩
  | n :: ns => by
    have h := lay_ints ns
    simp [PyData.canLayAll0, PyData.depthAll, PyData.canLay0, PyData.depth, h.1, h.2]
theorem shaped_ints (ns : List Int) : SeqAt.shaped (.list (ns.map PyData.int)) = true := by
  have h := lay_ints ns
  unfold SeqAt.shaped
  simp [PyData.canLay0, PyData.depth, h.1, h.2]
theorem shaped_intsT (ns : List Int) : SeqAt.shaped (.tuple (ns.map PyData.int)) = true := by
  have h := lay_ints ns
  unfold SeqAt.shaped
  simp [PyData.canLay0, PyData.depth, h.1, h.2]
theorem eqv_self {d : PyData} (h : SeqAt.shaped d = true) : PyData.eqv d d = true := SeqAt.eqv_refl d (SeqAt.canLay_of_shaped h)
theorem r_neSelf {x y : V} {d : PyData} (hx : Dp K H x d) (hy : Dp K H y d) (s : SeqAt.shaped d = true) (q : Q (.bl false) H) : rNeD K x y H Q := r_neD hx hy s s (by rw [eqv_self s]; exact q)
theorem r_eqSelf {x y : V} {d : PyData} (hx : Dp K H x d) (hy : Dp K H y d) (s : SeqAt.shaped d = true) (q : Q (.bl true) H) : rEqD K x y H Q := r_eqD hx hy s s (by rw [eqv_self s]; exact q)
theorem r_neInts {a b : Addr} {ns : List Int} (h1 : SqL K H a (ns.map V.int)) (h2 : SqL K H b (ns.map V.int)) (q : Q (.bl false) H) : rNeD K (.ref a) (.ref b) H Q := r_neSelf (dpInts h1) (dpInts h2) (shaped_ints ns) q
theorem r_eqInts {a b : Addr} {ns : List Int} (h1 : SqL K H a (ns.map V.int)) (h2 : SqL K H b (ns.map V.int)) (q : Q (.bl true) H) : rEqD K (.ref a) (.ref b) H Q := r_eqSelf (dpInts h1) (dpInts h2) (shaped_ints ns) q
end
end My
namespace My
open PySem L2
section
variable {K : PySem.W.Frag} {H : Hp} {Q : VK}
theorem StepAt.evA {a : Addr} {m : Int} (h : SqT K H a [.str "even", .int m]) : StepAt K H (.ref a) (.ev m) := ⟨a, rfl, h⟩
theorem StepAt.scA {a : Addr} {k m c : Int} (h : SqT K H a [.str "scale", .int k, .int m, .int c]) : StepAt K H (.ref a) (.sc k m c) := ⟨a, rfl, h⟩
theorem PipeAt.mk {a : Addr} {xs : List V} {p : Pipe} (h : SqT K H a xs) (r : Paired (StepAt K H) xs p) : PipeAt K H (.ref a) p := ⟨a, xs, rfl, h, r⟩
theorem pairNil : Paired (StepAt K H) [] [] := .nil
theorem pairCons {v : V} {s : Step} {xs : List V} {p : Pipe} (h : StepAt K H v s) (t : Paired (StepAt K H) xs p) : Paired (StepAt K H) (v :: xs) (s :: p) := .cons h t
theorem r_isiLT {a : Addr} {xs : List V} {T : String} (h : SqL K H a xs) (e : kitB "list" T = some true) (q : Q (.bl true) H) : rIsi K [.ref a, .ty T] H Q := by
  refine ⟨.ref a, .ty T, .type "list", _, true, rfl, .ty T, ?_, kit_ty e, q⟩
  rcases h with (h | ⟨o, h⟩) | ⟨o, its, n, h, c, _⟩
  · exact .base (.lst h)
  · exact .base (.frz h)
  · exact .kList h c
theorem r_isiLF {a : Addr} {xs : List V} {T : String} (h : SqL K H a xs) (e : kitB "list" T = some false) (q : Q (.bl false) H) : rIsi K [.ref a, .ty T] H Q := by
  refine ⟨.ref a, .ty T, .type "list", _, false, rfl, .ty T, ?_, kit_ty e, q⟩
  rcases h with (h | ⟨o, h⟩) | ⟨o, its, n, h, c, _⟩
  · exact .base (.lst h)
  · exact .base (.frz h)
  · exact .kList h c
end
instance (s : Step) : Decidable s.ok := by cases s <;> (unfold Step.ok; infer_instance)
instance (p : Pipe) : Decidable p.ok := by unfold Pipe.ok; infer_instance
instance (s : Step) : Decidable s.pos := by cases s <;> (unfold Step.pos; infer_instance)
instance (p : Pipe) : Decidable p.pos := by unfold Pipe.pos; infer_instance
end My
namespace My
open PySem L2
section
variable {K : PySem.W.Frag} {H : Hp}
theorem StepAt.newE {a : Addr} {m : Int} : StepAt K (L2.upd H a (.tup [.str "even", .int m])) (.ref a) (.ev m) := ⟨a, rfl, SqT.new⟩
theorem StepAt.newS {a : Addr} {k m c : Int} : StepAt K (L2.upd H a (.tup [.str "scale", .int k, .int m, .int c])) (.ref a) (.sc k m c) := ⟨a, rfl, SqT.new⟩
theorem PipeAt.new {a : Addr} {xs : List V} {p : Pipe} (r : Paired (StepAt K (L2.upd H a (.tup xs))) xs p) : PipeAt K (L2.upd H a (.tup xs)) (.ref a) p := ⟨a, xs, rfl, SqT.new, r⟩
end
end My
namespace My
open PySem L2
theorem SqL.hn {K : PySem.W.Frag} {H : Hp} {a p : Addr} {xs : List V} {o : HO} (n : a ≠ p) (h : SqL K H a xs) : SqL K (L2.upd H p o) a xs := by
  rcases h with (h | ⟨ob, h⟩) | h
  · exact .inl (.inl (HAt.hn n h))
  · exact .inl (.inr ⟨ob, HAt.hn n h⟩)
  · exact .inr h
theorem NEs {H : Hp} {a b : Addr} {o : HO} (n : H b = none) (h : H a = some o) : a ≠ b := ne_of_none h n
end My

namespace My
/-! ### periods, in plain Lean -/
def QP (f : Int → Int) (P R : Int) : Prop := ∀ x, f (x + P) = f x + R
theorem QP.add {f : Int → Int} {P R P' R' : Int} (h : QP f P R) (h' : QP f P' R') : QP f (P + P') (R + R') := fun x => by
  rw [← Int.add_assoc, h', h]; omega
theorem QP.neg {f : Int → Int} {P R : Int} (h : QP f P R) : QP f (-P) (-R) := fun x => by
  have := h (x + -P)
  rw [show x + -P + P = x by omega] at this
  omega
theorem QP.zero {f : Int → Int} : QP f 0 0 := fun x => by simp
theorem QP.mulNat {f : Int → Int} {P R : Int} (h : QP f P R) : ∀ n : Nat, QP f ((n : Int) * P) ((n : Int) * R)
  | 0 => by simpa using QP.zero
  | n + 1 => by
    have := (QP.mulNat h n).add h
    have e1 : ((n : Int) * P + P) = ((n + 1 : Nat) : Int) * P := by push_cast; rw [Int.add_mul]; omega
    have e2 : ((n : Int) * R + R) = ((n + 1 : Nat) : Int) * R := by push_cast; rw [Int.add_mul]; omega
    rw [e1, e2] at this; exact this
theorem QP.mul {f : Int → Int} {P R : Int} (h : QP f P R) (n : Int) : QP f (n * P) (n * R) := by
  rcases Int.le_total 0 n with hn | hn
  · obtain ⟨k, rfl⟩ := Int.eq_ofNat_of_zero_le hn
    exact h.mulNat k
  · obtain ⟨k, hk⟩ := Int.eq_ofNat_of_zero_le (show 0 ≤ -n by omega)
    have := (h.mulNat k).neg
    rw [← Int.neg_mul, ← Int.neg_mul] at this
    rw [show n = -(k : Int) by omega]; exact this
theorem QP.comp {f g : Int → Int} {P R R' : Int} (h : QP f P R) (h' : QP g R R') : QP (fun x => g (f x)) P R' := fun x => by
  show g (f (x + P)) = g (f x) + R'
  rw [h, h']
theorem QP.rise {f : Int → Int} {P R R' : Int} (h : QP f P R) (h' : QP f P R') : R = R' := by
  have a := h 0; have b := h' 0; omega
theorem QP.congr {f g : Int → Int} {P R : Int} (h : QP f P R) (e : ∀ x, f x = g x) : QP g P R := fun x => by rw [← e, ← e]; exact h x
structure Least (f : Int → Int) (P R : Int) : Prop where
  pos : 0 < P
  qp : QP f P R
  least : ∀ P' R', 0 < P' → QP f P' R' → P ≤ P'
theorem Least.congr {f g : Int → Int} {P R : Int} (h : Least f P R) (e : ∀ x, f x = g x) : Least g P R := ⟨h.pos, h.qp.congr e, fun P' R' hp hq => h.least P' R' hp (hq.congr fun x => (e x).symm)⟩
theorem Least.unique {f : Int → Int} {P R P' R' : Int} (h : Least f P R) (h' : Least f P' R') : P = P' ∧ R = R' := by
  have e : P = P' := Int.le_antisymm (h.least _ _ h'.pos h'.qp) (h'.least _ _ h.pos h.qp)
  subst e
  exact ⟨rfl, h.qp.rise h'.qp⟩
theorem Least.dvd {f : Int → Int} {P R P' R' : Int} (h : Least f P R) (h' : QP f P' R') : P' = P * (P' / P) ∧ R' = R * (P' / P) := by
  have hq : QP f (P' % P) (R' - R * (P' / P)) := by
    have := h'.add ((h.qp.mul (P' / P)).neg)
    have e1 : P' + -(P' / P * P) = P' % P := by have := Int.mul_ediv_add_emod P' P; rw [Int.mul_comm] at this; omega
    have e2 : R' + -(P' / P * R) = R' - R * (P' / P) := by rw [Int.mul_comm R]; omega
    rw [e1, e2] at this; exact this
  have h0 := Int.emod_nonneg P' (show P ≠ 0 by have := h.pos; omega)
  have h1 := Int.emod_lt_of_pos P' h.pos
  have hz : P' % P = 0 := by
    rcases Int.lt_or_le 0 (P' % P) with hlt | hle
    · have := h.least _ _ hlt hq; omega
    · omega
  have e := Int.mul_ediv_add_emod P' P
  refine ⟨by omega, ?_⟩
  rw [hz] at hq
  have := hq.rise QP.zero
  omega
theorem exists_least {f : Int → Int} : ∀ (n : Nat) {P R : Int}, P.toNat ≤ n → 0 < P → QP f P R → ∃ P0 R0, Least f P0 R0
  | 0, P, R, hn, hp, _ => by omega
  | n + 1, P, R, hn, hp, hq => by
    by_cases h : ∃ P' R', 0 < P' ∧ P' < P ∧ QP f P' R'
    · obtain ⟨P', R', h1, h2, h3⟩ := h
      exact exists_least n (by omega) h1 h3
    · refine ⟨P, R, hp, hq, fun P' R' h1 h3 => ?_⟩
      rcases Int.lt_or_le P' P with hlt | hle
      · exact absurd ⟨P', R', h1, hlt, h3⟩ h
      · exact hle
theorem QP.least {f : Int → Int} {P R : Int} (hp : 0 < P) (hq : QP f P R) : ∃ P0 R0, Least f P0 R0 := exists_least P.toNat (Nat.le_refl _) hp hq

/-! ### steps: period, order -/
theorem ediv_shift (a m k : Int) (h : 0 < m) : (a + m * k) / m = a / m + k := Int.add_mul_ediv_left a k (by omega)
theorem Step.qp {s : Step} (h : s.pos) : QP s.val s.per s.rise := by
  cases s with
  | sc k m c =>
    intro x
    obtain ⟨_, m1, _⟩ := h
    show (k * (x + m) + c) / m = (k * x + c) / m + k
    rw [show k * (x + m) + c = k * x + c + m * k by rw [Int.mul_add, Int.mul_comm k m]; omega]
    exact ediv_shift _ _ _ (by omega)
  | ev m =>
    intro x
    have m1 : 1 ≤ m := h.1
    show (Step.ev m).val (x + if m % 2 = 0 then 2 * m else m) = (Step.ev m).val x + if m % 2 = 0 then 2 else 1
    split
    · rename_i he
      have e1 : (x + 2 * m) / m = x / m + 2 := by rw [show 2 * m = m * 2 by omega]; exact ediv_shift _ _ _ (by omega)
      have e2 : (x + 2 * m) % m = x % m := by rw [show 2 * m = m * 2 by omega]; exact Int.add_mul_emod_self_left x m 2
      simp only [Step.val, e1, e2]
      split <;> (try split) <;> omega
    · rename_i he
      have e1 : (x + m) / m = x / m + 1 := by have := ediv_shift x m 1 (by omega); simpa using this
      have e2 : (x + m) % m = x % m := by have := Int.add_mul_emod_self_left x m 1; simpa using this
      simp only [Step.val, e1, e2]
      split <;> (try split) <;> omega
theorem Step.rise_pos {s : Step} (h : s.pos) : 1 ≤ s.rise ∧ s.rise ≤ 120 := by
  cases s with
  | sc k m c => exact h.1
  | ev m => unfold Step.rise; dsimp only; split <;> omega
theorem Step.per_pos' {s : Step} (h : s.pos) : 1 ≤ s.per ∧ s.per ≤ 288 := by
  cases s with
  | sc k m c => exact ⟨h.2.1, Int.le_trans h.2.2 (by decide)⟩
  | ev m =>
    have h1 := h.1; have h2 := h.2
    unfold Step.per; dsimp only; split <;> omega
theorem Step.mono {s : Step} (h : s.pos) {x y : Int} (hxy : x ≤ y) : s.val x ≤ s.val y := by
  cases s with
  | sc k m c =>
    obtain ⟨⟨k1, _⟩, m1, _⟩ := h
    exact Int.ediv_le_ediv (by omega) (Int.add_le_add_right (Int.mul_le_mul_of_nonneg_left hxy (by omega)) _)
  | ev m =>
    have m1 : 1 ≤ m := h.1
    have hm : 0 < m := by omega
    have a1 := Int.mul_ediv_add_emod x m
    have a2 := Int.mul_ediv_add_emod y m
    have b1 := emod_b (x := x) hm
    have b2 := emod_b (x := y) hm
    have hq : x / m ≤ y / m := Int.ediv_le_ediv hm hxy
    simp only [Step.val]
    rcases Int.lt_or_eq_of_le hq with hlt | heq
    · split <;> split <;> (try split) <;> (try split) <;> omega
    · rw [← heq] at a2 ⊢
      split <;> split <;> (try split) <;> (try split) <;> omega
theorem Pipe.mono {p : Pipe} (h : p.pos) {x y : Int} (hxy : x ≤ y) : p.val x ≤ p.val y := by
  induction p generalizing x y with
  | nil => exact hxy
  | cons s p ih =>
    rw [Pipe.val_cons, Pipe.val_cons]
    exact ih (fun t ht => h t (by simp [ht])) (Step.mono (h s (by simp)) hxy)
def Pipe.rises (p : Pipe) : Int := (p.map Step.rise).foldl (fun a b => a * b) 1
theorem Pipe.rises_cons (p : Pipe) (s : Step) : Pipe.rises (s :: p) = s.rise * Pipe.rises p := by
  unfold Pipe.rises
  simp only [List.map_cons, List.foldl_cons]
  rw [foldl_mul]
  simp
theorem Pipe.prod_pos' : ∀ {p : Pipe}, p.pos → 1 ≤ p.prod
  | [], _ => by decide
  | s :: p, h => by
    rw [Pipe.prod_cons]
    exact one_le_mul (Step.per_pos' (h s (by simp))).1 (Pipe.prod_pos' fun t ht => h t (by simp [ht]))
theorem Pipe.rises_pos : ∀ {p : Pipe}, p.pos → 1 ≤ p.rises
  | [], _ => by decide
  | s :: p, h => by
    rw [Pipe.rises_cons]
    exact one_le_mul (Step.rise_pos (h s (by simp))).1 (Pipe.rises_pos fun t ht => h t (by simp [ht]))
/-- the product of all step periods is a period -/
theorem Pipe.qp : ∀ {p : Pipe}, p.pos → QP p.val p.prod p.rises
  | [], _ => fun x => by show x + 1 = x + 1; rfl
  | s :: p, h => by
    have hs := Step.qp (h s (by simp))
    have hp := Pipe.qp (p := p) fun t ht => h t (by simp [ht])
    rw [Pipe.prod_cons, Pipe.rises_cons]
    have h1 : QP s.val (s.per * (Pipe.prod p)) (s.rise * (Pipe.prod p)) := by
      have := hs.mul (Pipe.prod p)
      rw [Int.mul_comm (Pipe.prod p), Int.mul_comm (Pipe.prod p)] at this; exact this
    have h2 : QP (Pipe.val p) (s.rise * (Pipe.prod p)) (s.rise * (Pipe.rises p)) := hp.mul s.rise
    exact h1.comp h2
theorem Pipe.least_ex {p : Pipe} (h : p.pos) : ∃ P R, Least p.val P R := QP.least (by have := Pipe.prod_pos' h; omega) (Pipe.qp h)
theorem Least.bounds {p : Pipe} (h : p.pos) {P R : Int} (hl : Least p.val P R) : P ≤ p.prod ∧ 1 ≤ R := by
  refine ⟨hl.least _ _ (by have := Pipe.prod_pos' h; omega) (Pipe.qp h), ?_⟩
  have hd := hl.dvd (Pipe.qp h)
  have hr := Pipe.rises_pos h
  have hp := Pipe.prod_pos' h
  have hq : 0 ≤ p.prod / P := Int.ediv_nonneg (by omega) (by have := hl.pos; omega)
  rcases Int.lt_or_le 0 R with h0 | h0
  · omega
  · have : R * (p.prod / P) ≤ 0 := Int.mul_nonpos_of_nonpos_of_nonneg h0 hq
    omega
/-- agreeing with its own shift over one period -/
theorem QP.of_window {f : Int → Int} {L R d : Int} (hL : 0 < L) (hq : QP f L R) (h : ∀ x, 0 ≤ x → x < L → f (x + 1 + d) - f (x + d) = f (x + 1) - f x) : QP f d (f d - f 0) := by
  have hall : ∀ x, f (x + 1 + d) - f (x + d) = f (x + 1) - f x := by
    intro x
    have e := Int.mul_ediv_add_emod x L
    have b := emod_b (x := x) hL
    have hk := hq.mul (x / L)
    have h1 := h (x % L) b.1 b.2
    have a1 := hk (x % L + 1 + d)
    have a2 := hk (x % L + d)
    have a3 := hk (x % L + 1)
    have a4 := hk (x % L)
    rw [Int.mul_comm] at e
    rw [show x % L + 1 + d + x / L * L = x + 1 + d by omega] at a1
    rw [show x % L + d + x / L * L = x + d by omega] at a2
    rw [show x % L + 1 + x / L * L = x + 1 by omega] at a3
    rw [show x % L + x / L * L = x by omega] at a4
    omega
  have up : ∀ n : Nat, f ((n : Int) + d) = f n + (f d - f 0) := by
    intro n
    induction n with
    | zero => have : ((0 : Nat) : Int) + d = d := by omega
              rw [this]; show f d = f 0 + _; omega
    | succ n ih => have := hall n; push_cast; omega
  have dn : ∀ n : Nat, f (-(n : Int) + d) = f (-(n : Int)) + (f d - f 0) := by
    intro n
    induction n with
    | zero => have e1 : -((0 : Nat) : Int) + d = d := by omega
              have e2 : -((0 : Nat) : Int) = 0 := by omega
              rw [e1, e2]; omega
    | succ n ih =>
      have := hall (-((n : Int) + 1))
      rw [show -((n : Int) + 1) + 1 + d = -(n : Int) + d by omega, show -((n : Int) + 1) + 1 = -(n : Int) by omega] at this
      push_cast; omega
  intro x
  rcases Int.le_total 0 x with hx | hx
  · obtain ⟨n, rfl⟩ := Int.eq_ofNat_of_zero_le hx
    exact up n
  · obtain ⟨n, hn⟩ := Int.eq_ofNat_of_zero_le (show 0 ≤ -x by omega)
    rw [show x = -(n : Int) by omega]; exact dn n
end My

namespace My
open PySem L2
/-! ### more rules with K said -/
section
variable {X : Cx} (K : PySem.W.Frag)
theorem kcatA (h : X.K = K := by rfl) : OpR X (binaryOp .Add) (rCatA K) := by subst h; exact op_catA
theorem ksl_tupA (h : X.K = K := by rfl) : SlR X (rSlA K) := by subst h; exact sl_tupA
theorem kpe_revL {e : Expr} {te : TE} {k : Nat} {p1 p2 p3 pos : Pos} (he : PE X e te) (h : X.K = K := by rfl) : PE X (.Subscript e (.Slice none none (some (.UnaryOp .USub (.Constant (.int 1) k p1) p2)) p3) pos) (tRevL K te) := by subst h; exact pe_revL he
theorem kpi_zip {e e2 : Expr} {ta : TA} {p pos tpos : Pos} {elts : List Expr} {kk : Nat} (hg : Gl X "zip") (hm : X.mg "zip" = none) (ha : PA X [e, e2] ta) (h : X.K = K := by rfl)
    (hs : starEach [e, e2] X.env = (false, eval e X.env) :: starEach [e2] X.env := by rfl) (hpl : (backTo pos (starEach [e2] X.env)).any (·.1) = false := by rfl) :
    PI X (.Tuple elts kk tpos) (.Call (.Name "zip" p) [e, e2] [] pos) (iZip K ta) := by subst h; exact pi_zip hg hm ha hs hpl
theorem kpi_enum {e : Expr} {ta : TA} {p pos tpos : Pos} {elts : List Expr} {kk : Nat} (hg : Gl X "enumerate") (hm : X.mg "enumerate" = none) (ha : PA X [e] ta) (h : X.K = K := by rfl) (hs : starEach [e] X.env = [(false, eval e X.env)] := by rfl) :
    PI X (.Tuple elts kk tpos) (.Call (.Name "enumerate" p) [e] [] pos) (iEnum K ta) := by subst h; exact pi_enum hg hm ha hs
end
/-! ### readings -/
def nZip (K : PySem.W.Frag) (vs : List V) (H1 : Hp) (R : It → Hp → Prop) : Prop := ∃ a b xs ys, vs = [.ref a, .ref b] ∧ SqL K H1 a xs ∧ SqL K H1 b ys ∧ R (Itz K a b) H1
def nEnum (K : PySem.W.Frag) (vs : List V) (H1 : Hp) (R : It → Hp → Prop) : Prop := ∃ a xs, vs = [.ref a] ∧ SqL K H1 a xs ∧ R (Ite K a) H1
section
variable {K : PySem.W.Frag} {σ : St} {H : Hp} {Q : VK} {te : TE} {ta : TA} {R : It → Hp → Prop} {tl th : TO}
theorem i_zip (h : ta σ H fun vs H1 => nZip K vs H1 R) : iZip K ta σ H R := h
theorem i_z {a b : Addr} {xs ys : List V} (e : SqL K H a xs) (e' : SqL K H b ys) (h : R (Itz K a b) H) : nZip K [.ref a, .ref b] H R := ⟨a, b, xs, ys, rfl, e, e', h⟩
theorem i_enum (h : ta σ H fun vs H1 => nEnum K vs H1 R) : iEnum K ta σ H R := h
theorem i_e {a : Addr} {xs : List V} (e : SqL K H a xs) (h : R (Ite K a) H) : nEnum K [.ref a] H R := ⟨a, xs, rfl, e, h⟩
theorem r_sl {r : V → Option Int → Option Int → Hp → VK → Prop} (h : te σ H fun x H1 => tl σ H1 fun l H2 => th σ H2 fun u H3 => r x l u H3 Q) : tSl r te tl th σ H Q := h
theorem r_nopart {Q : Option Int → Hp → Prop} (h : Q none H) : tNoPart σ H Q := h
theorem r_part {Q : Option Int → Hp → Prop} (h : te σ H fun x H1 => ∃ i, x = .int i ∧ Q (some i) H1) : tPart te σ H Q := h
theorem r_slL {a : Addr} {xs : List V} {lo hi : Option Int} (h : SqL K H a xs) (q : ∀ p, H p = none → Q (.ref p) (L2.upd H p (.lst (cutV xs lo hi)))) : rSlL K (.ref a) lo hi H Q := ⟨a, xs, rfl, h, q⟩
theorem r_cat {a b : Addr} {xs ys : List V} (h : H a = some (.lst xs)) (h' : H b = some (.lst ys)) (s : xs.length + ys.length ≤ sizeLine) (q : ∀ p, H p = none → Q (.ref p) (L2.upd H p (.lst (xs ++ ys)))) : rCat (.ref a) (.ref b) H Q := ⟨a, b, xs, ys, rfl, rfl, h, h', s, q⟩
theorem r_revL (h : te σ H fun x H1 => ∃ a xs, x = .ref a ∧ SqL K H1 a xs ∧ ∀ p, H1 p = none → Q (.ref p) (L2.upd H1 p (.lst xs.reverse))) : tRevL K te σ H Q := h
theorem r_minI {a : Addr} {ns : List Int} {m : Int} (h : SqL K H a (ns.map V.int)) (hm : m ∈ ns) (hl : ∀ y ∈ ns, m ≤ y) (q : Q (.int m) H) : rMin K [.ref a] H Q :=
  ⟨a, ns, rfl, h, List.length_pos_of_mem hm, fun m' hm' hl' => by rw [show m' = m from Int.le_antisymm (hl' m hm) (hl m' hm')]; exact q⟩
theorem r_maxI {a : Addr} {ns : List Int} {m : Int} (h : SqL K H a (ns.map V.int)) (hm : m ∈ ns) (hl : ∀ y ∈ ns, y ≤ m) (q : Q (.int m) H) : rMax K [.ref a] H Q :=
  ⟨a, ns, rfl, h, List.length_pos_of_mem hm, fun m' hm' hl' => by rw [show m' = m from Int.le_antisymm (hl m' hm') (hl' m hm)]; exact q⟩
theorem Dp.mkT {a : Addr} {xs : List V} {ds : List PyData} (h : SqT K H a xs) (r : DpAll K H xs ds) : Dp K H (.ref a) (.tuple ds) := .tup h r
theorem Dp.mkL {a : Addr} {xs : List V} {ds : List PyData} (h : SqL K H a xs) (r : DpAll K H xs ds) : Dp K H (.ref a) (.list ds) := .lst h r
theorem Dp.mkI {a : Addr} {ns : List Int} (h : SqT K H a (ns.map V.int)) : Dp K H (.ref a) (.tuple (ns.map PyData.int)) := dpIntsT h
theorem dpNil : DpAll K H [] [] := .nil
theorem dpCons {v : V} {vs : List V} {d : PyData} {ds : List PyData} (h : Dp K H v d) (t : DpAll K H vs ds) : DpAll K H (v :: vs) (d :: ds) := .cons h t
end
theorem cut_from (xs : List V) (a : Nat) : cutV xs (some (a : Int)) none = xs.drop a := by
  unfold cutV
  rw [HT.sIx_nat, HT.sIx_none]
  rcases Nat.le_total a xs.length with h | h
  · rw [Nat.min_eq_left h]; exact List.take_of_length_le (by simp)
  · rw [Nat.min_eq_right h, List.drop_eq_nil_of_le h, List.drop_eq_nil_of_le (Nat.le_refl _)]; simp
theorem cut_to (xs : List V) (b : Nat) : cutV xs none (some (b : Int)) = xs.take b := by
  unfold cutV
  rw [HT.sIx_nat, HT.sIx_none]
  rcases Nat.le_total b xs.length with h | h
  · rw [Nat.min_eq_left h]; simp
  · rw [Nat.min_eq_right h]; simp [List.take_of_length_le h]
theorem cut_from' (xs : List V) {a : Int} (h : 0 ≤ a) : cutV xs (some a) none = xs.drop a.toNat := by
  rw [← cut_from, Int.toNat_of_nonneg h]
theorem cut_to' (xs : List V) {a : Int} (h : 0 ≤ a) : cutV xs none (some a) = xs.take a.toNat := by
  rw [← cut_to, Int.toNat_of_nonneg h]
theorem eqv_ints : ∀ ns ms : List Int, PyData.eqvAll (ns.map PyData.int) (ms.map PyData.int) = decide (ns = ms)
  | [], [] => rfl
  | [], _ :: _ => by simp [PyData.eqvAll]
  | _ :: _, [] => by simp [PyData.eqvAll]
  | n :: ns, m :: ms => by
    simp only [List.map_cons, PyData.eqvAll, PyData.eqv, eqv_ints ns ms]
    by_cases h : n = m
    · subst h; simp
    · simp [h]
section
variable {K : PySem.W.Frag} {H : Hp} {Q : VK}
theorem r_eqIntsD {a b : Addr} {ns ms : List Int} (h1 : SqL K H a (ns.map V.int)) (h2 : SqL K H b (ms.map V.int)) (q : Q (.bl (decide (ns = ms))) H) : rEqD K (.ref a) (.ref b) H Q :=
  r_eqD (dpInts h1) (dpInts h2) (shaped_ints ns) (shaped_ints ms) (by rw [show PyData.eqv (.list (ns.map PyData.int)) (.list (ms.map PyData.int)) = PyData.eqvAll (ns.map PyData.int) (ms.map PyData.int) by rw [PyData.eqv], eqv_ints]; exact q)
end
/-- a comprehension over two lists side by side -/
theorem ll_zip {K : PySem.W.Frag} {σ : St} {H : Hp} {Q : VK} {te : TE} {α : Type} {i0 j0 : Nat} {a b : Addr} {xs ys : List V} {zs : List α} (f : α → V) (hx : SqL K H a xs) (hy : SqL K H b ys) (h1 : zs.length ≤ xs.length) (h2 : zs.length ≤ ys.length) (h3 : xs.length ≤ zs.length ∨ ys.length ≤ zs.length) (hsz : zs.length < 16777216)
    (hw : ∀ x y, wipe (((wipe σ [i0, j0]).set i0 (some x)).set j0 (some y)) [i0, j0] = wipe σ [i0, j0])
    (hs : ∀ (i : Nat) (x y : V) (z : α) (H' : Hp) (Q' : VK), xs[i]? = some x → ys[i]? = some y → zs[i]? = some z → Same H H' → (∀ H4, Same H' H4 → Q' (f z) H4) → te (((wipe σ [i0, j0]).set i0 (some x)).set j0 (some y)) H' Q')
    (hd : ∀ D H', Same H H' → H' D = some (.lst (zs.map f)) → H D = none → Q (.ref D) H') : LLoop (Itz K a b) (gTup K 2 (gCons (gName i0) (gCons (gName j0) gNil))) tYes te [i0, j0] σ H Q := by
  intro D hD
  refine ⟨fun i m H' => m = zs.length - i ∧ i ≤ zs.length ∧ Same H H' ∧ H' D = some (.lst ((zs.take i).map f)), ⟨_, rfl, Nat.zero_le _, Same.up (Same.refl _) hD, upd_same⟩, ?_⟩
  rintro i m H' ⟨rfl, hi, hS, hl⟩
  by_cases hlt : i < zs.length
  · have ex : xs[i]? = some xs[i] := List.getElem?_eq_getElem (by omega)
    have ey : ys[i]? = some ys[i] := List.getElem?_eq_getElem (by omega)
    have ez : zs[i]? = some zs[i] := List.getElem?_eq_getElem hlt
    refine .inr ⟨⟨xs, ys, _, _, SqL.same hS hx, SqL.same hS hy, ex, ey⟩, fun H3 => Same H H3 ∧ H3 D = some (.lst ((zs.take (i + 1)).map f)), fun H3 h => ⟨zs.length - (i + 1), by omega, rfl, hlt, h.1, h.2⟩, ?_⟩
    rintro v H2 ⟨T, x, y, rfl, hT, rfl, fx, fy⟩
    have e1 : x = xs[i] := Option.some.inj ((fx _ (SqL.same hS hx)).symm.trans ex)
    have e2 : y = ys[i] := Option.some.inj ((fy _ (SqL.same hS hy)).symm.trans ey)
    subst e1; subst e2
    refine ⟨T, _, rfl, SqT.new, rfl, _, _, rfl, _, _, rfl, rfl, hw _ _, ?_⟩
    show te _ _ _
    refine hs i _ _ _ _ _ ex ey ez (Same.up hS hT) fun H4 h4 => ⟨_, h4 _ _ (HAt.hu hT hl), ?_, Same.upN ((Same.up hS hT).trans h4) hD, ?_⟩
    · rw [List.length_map, List.length_take, PySem.sizeLine_eq]; omega
    · rw [upd_same, List.take_add_one, ez, List.map_append]; rfl
  · have e : i = zs.length := by omega
    subst e
    refine .inl ⟨⟨xs, ys, SqL.same hS hx, SqL.same hS hy, h3⟩, hd D H' hS ?_ hD⟩
    rw [hl, List.take_length]
/-! ### differences -/
def diffs (f : Int → Int) (n : Nat) : List Int := (List.range n).map fun (x : Nat) => f ((x : Int) + 1) - f x
theorem diffs_len (f : Int → Int) (n : Nat) : (diffs f n).length = n := by simp [diffs]
theorem diffs_get {f : Int → Int} {n i : Nat} (h : i < n) : (diffs f n)[i]? = some (f (i + 1) - f i) := by simp [diffs, h]
theorem diffs_sum (f : Int → Int) : ∀ n : Nat, (diffs f n).sum = f n - f 0
  | 0 => by simp [diffs]
  | n + 1 => by
    have ih := diffs_sum f n
    unfold diffs at ih ⊢
    rw [List.range_succ, List.map_append, List.sum_append, ih]
    simp
    omega
theorem diffs_take (f : Int → Int) {n d : Nat} (h : d ≤ n) : (diffs f n).take d = diffs f d := by
  unfold diffs
  rw [← List.map_take, List.take_range, Nat.min_eq_left h]
theorem rot_diffs {f : Int → Int} {n d : Nat} {R : Int} (hq : QP f n R) (h : d ≤ n) : (diffs f n).drop d ++ (diffs f n).take d = (List.range n).map fun (x : Nat) => f ((x : Int) + 1 + d) - f ((x : Int) + d) := by
  apply List.ext_getElem?
  intro i
  rcases Nat.lt_or_ge i (n - d) with h1 | h1
  · rw [List.getElem?_append_left (by simp [diffs_len]; omega), List.getElem?_drop, diffs_get (by omega)]
    simp [show i < n by omega]
    congr 2 <;> omega
  · rw [List.getElem?_append_right (by simp [diffs_len]; omega), List.length_drop, diffs_len]
    rcases Nat.lt_or_ge i n with h2 | h2
    · rw [List.getElem?_take_of_lt (by omega), diffs_get (by omega)]
      simp [h2]
      have a1 := hq ((((i - (n - d) : Nat) : Int)) + 1)
      have a2 := hq (((i - (n - d) : Nat) : Int))
      rw [show (((i - (n - d) : Nat) : Int)) + 1 + n = (i : Int) + 1 + d by omega] at a1
      rw [show (((i - (n - d) : Nat) : Int)) + n = (i : Int) + d by omega] at a2
      omega
    · rw [List.getElem?_eq_none (by simp [diffs_len]; omega), List.getElem?_eq_none (by simp; omega)]
theorem rot_iff {f : Int → Int} {n d : Nat} {R : Int} (hn : 0 < n) (hq : QP f n R) (h : d ≤ n) : (diffs f n).drop d ++ (diffs f n).take d = diffs f n ↔ QP f d (f d - f 0) := by
  rw [rot_diffs hq h]
  constructor
  · intro e
    refine QP.of_window (L := n) (R := R) (by omega) hq fun x h0 h1 => ?_
    have := congrArg (fun l => l[x.toNat]?) e
    simp only [List.getElem?_map, diffs, List.getElem?_range (show x.toNat < n by omega), Option.map_some, Option.some.injEq] at this
    rw [show ((x.toNat : Nat) : Int) = x by omega] at this
    exact this
  · intro hd
    unfold diffs
    apply List.map_congr_left
    intro x _
    rw [hd, hd]; omega
/-- what the search for the least period finds -/
theorem least_found {f : Int → Int} {n d : Nat} {R : Int} (hn : 0 < n) (hq : QP f n R) (hd : 0 < d) (hdn : d ≤ n) (hr : (diffs f n).drop d ++ (diffs f n).take d = diffs f n)
    (hno : ∀ e : Nat, 0 < e → e < d → n % e = 0 → (diffs f n).drop e ++ (diffs f n).take e ≠ diffs f n) : Least f d (f d - f 0) := by
  have qd := (rot_iff hn hq hdn).mp hr
  obtain ⟨P, R', hl⟩ := QP.least (f := f) (P := (n : Int)) (R := R) (by omega) hq
  have hle := hl.least _ _ (by omega) qd
  have hdv := hl.dvd hq
  have hp := hl.pos
  have e : P = d := by
    rcases Int.lt_or_eq_of_le hle with hlt | he
    · exfalso
      have en : n % P.toNat = 0 := by
        have : ((n : Int)) % P = 0 := by rw [hdv.1]; exact Int.mul_emod_right _ _
        have h2 : ((n % P.toNat : Nat) : Int) = 0 := by rw [Int.natCast_emod, Int.toNat_of_nonneg (by omega)]; exact this
        omega
      refine hno P.toNat (by omega) (by omega) en ((rot_iff hn hq (by omega)).mpr ?_)
      have hq' := hl.qp
      rw [show ((P.toNat : Nat) : Int) = P by omega]
      have e2 : R' = f P - f 0 := by have := hq' 0; rw [show (0 : Int) + P = P by omega] at this; omega
      rw [← e2]; exact hq'
    · exact he
  subst e
  exact ⟨hp, qd, hl.least⟩
/-! ### fractions -/
def gcdI (a b : Int) : Int := ((a.toNat.gcd b.toNat : Nat) : Int)
theorem gcdI_pos {a b : Int} (h : 0 < b) : 1 ≤ gcdI a b := by
  unfold gcdI
  have := Nat.gcd_pos_of_pos_right a.toNat (show 0 < b.toNat by omega)
  omega
theorem gcdI_le {a b : Int} (h : 0 < b) : gcdI a b ≤ b := by
  unfold gcdI
  have := Nat.gcd_le_right a.toNat (show 0 < b.toNat by omega)
  omega
theorem gcdI_dvd_right {a b : Int} (h : 0 ≤ b) : b = gcdI a b * (b / gcdI a b) := by
  have hd : (gcdI a b) ∣ b := by
    unfold gcdI
    have := Nat.gcd_dvd_right a.toNat b.toNat
    have h2 : ((b.toNat : Nat) : Int) = b := by omega
    rw [← h2]; exact Int.natCast_dvd_natCast.mpr (by rw [show (((b.toNat : Nat) : Int)).toNat = b.toNat by omega]; exact this)
  exact (Int.mul_ediv_cancel' hd).symm
theorem gcdI_dvd_left {a b : Int} (h : 0 ≤ a) : a = gcdI a b * (a / gcdI a b) := by
  have hd : (gcdI a b) ∣ a := by
    unfold gcdI
    have := Nat.gcd_dvd_left a.toNat b.toNat
    have h2 : ((a.toNat : Nat) : Int) = a := by omega
    rw [← h2]; exact Int.natCast_dvd_natCast.mpr (by rw [show (((a.toNat : Nat) : Int)).toNat = a.toNat by omega]; exact this)
  exact (Int.mul_ediv_cancel' hd).symm
theorem gcdI_step {a b : Int} (ha : 0 ≤ a) (hb : 0 < b) : gcdI b (a % b) = gcdI a b := by
  unfold gcdI
  have e : (a % b).toNat = a.toNat % b.toNat := by
    have h1 : ((a.toNat % b.toNat : Nat) : Int) = a % b := by rw [Int.natCast_emod, Int.toNat_of_nonneg ha, Int.toNat_of_nonneg (by omega)]
    omega
  rw [e, Nat.gcd_comm b.toNat, ← Nat.gcd_rec, Nat.gcd_comm]
theorem gcdI_zero {a : Int} (ha : 0 ≤ a) : gcdI a 0 = a := by unfold gcdI; simp; omega
def absI (i : Int) : Int := if i < 0 then -i else i
def frTop (t b : Int) : Int := t / gcdI (absI t) b
def frBot (t b : Int) : Int := b / gcdI (absI t) b
theorem absI_nn (i : Int) : 0 ≤ absI i := by unfold absI; split <;> omega
end My
namespace My
open PySem L2
section
variable {K : PySem.W.Frag} {H : Hp} {Q : VK}
theorem r_slFromI {a : Addr} {ns : List Int} {n : Nat} (h : SqL K H a (ns.map V.int)) (q : ∀ p, H p = none → Q (.ref p) (L2.upd H p (.lst ((ns.drop n).map V.int)))) : rSlL K (.ref a) (some ((n : Nat) : Int)) none H Q :=
  r_slL h (by rw [cut_from, ← List.map_drop]; exact q)
theorem r_slToI {a : Addr} {ns : List Int} {n : Nat} (h : SqL K H a (ns.map V.int)) (q : ∀ p, H p = none → Q (.ref p) (L2.upd H p (.lst ((ns.take n).map V.int)))) : rSlL K (.ref a) none (some ((n : Nat) : Int)) H Q :=
  r_slL h (by rw [cut_to, ← List.map_take]; exact q)
theorem r_sl1I {a : Addr} {ns : List Int} (h : SqL K H a (ns.map V.int)) (q : ∀ p, H p = none → Q (.ref p) (L2.upd H p (.lst ((ns.drop 1).map V.int)))) : rSlL K (.ref a) (some 1) none H Q := r_slFromI (n := 1) h q
theorem r_catI {a b : Addr} {xs ys : List Int} (h : H a = some (.lst (xs.map V.int))) (h' : H b = some (.lst (ys.map V.int))) (s : xs.length + ys.length ≤ sizeLine) (q : ∀ p, H p = none → Q (.ref p) (L2.upd H p (.lst ((xs ++ ys).map V.int)))) : rCat (.ref a) (.ref b) H Q :=
  r_cat h h' (by rw [List.length_map, List.length_map]; exact s) (by rw [← List.map_append]; exact q)
end
theorem period_step {f : Int → Int} {s : Step} {L R M : Int} (hs : s.pos) (hq : QP f L R) (hL : 1 ≤ L) (hM : L ≤ M) (hR : 1 ≤ R) :
    1 ≤ s.per / gcdI R s.per ∧ s.per / gcdI R s.per ≤ 288 ∧ QP (fun x => s.val (f x)) (L * (s.per / gcdI R s.per)) (R * (s.per / gcdI R s.per) * s.rise / s.per) ∧ 1 ≤ L * (s.per / gcdI R s.per) ∧ L * (s.per / gcdI R s.per) ≤ M * s.per ∧ 1 ≤ R * (s.per / gcdI R s.per) * s.rise / s.per := by
  obtain ⟨o1, o2⟩ := Step.per_pos' hs
  obtain ⟨o3, o4⟩ := Step.rise_pos hs
  have e1 := gcdI_dvd_left (a := R) (b := s.per) (by omega)
  have e2 := gcdI_dvd_right (a := R) (b := s.per) (by omega)
  have gp := gcdI_pos (a := R) (b := s.per) (by omega)
  generalize gcdI R s.per = g at *
  generalize ht : s.per / g = t at *
  generalize ha : R / g = a at *
  have t1 : 1 ≤ t := by
    rcases Int.lt_or_le t 1 with h | h
    · have := Int.mul_nonpos_of_nonneg_of_nonpos (show 0 ≤ g by omega) (show t ≤ 0 by omega); omega
    · exact h
  have a1 : 1 ≤ a := by
    rcases Int.lt_or_le a 1 with h | h
    · have := Int.mul_nonpos_of_nonneg_of_nonpos (show 0 ≤ g by omega) (show a ≤ 0 by omega); omega
    · exact h
  have t2 : t ≤ s.per := by
    have := Int.mul_le_mul_of_nonneg_right gp (show 0 ≤ t by omega)
    omega
  have e3 : R * t = a * s.per := by rw [e1, e2]; rw [Int.mul_comm g a, Int.mul_assoc]
  have e4 : R * t * s.rise / s.per = a * s.rise := by
    rw [e3, Int.mul_assoc, Int.mul_comm s.per, ← Int.mul_assoc]
    exact Int.mul_ediv_cancel _ (by omega)
  refine ⟨t1, by omega, ?_, one_le_mul hL t1, ?_, ?_⟩
  · rw [e4]
    have h1 := hq.mul t
    have h2 := (Step.qp hs).mul a
    rw [Int.mul_comm t L, Int.mul_comm t R, e3] at h1
    exact h1.comp h2
  · exact Int.mul_le_mul hM t2 (by omega) (by omega)
  · rw [e4]; exact one_le_mul a1 o3
theorem Pipe.val_take_fun {p : Pipe} {i : Nat} {s : Step} (h : p[i]? = some s) : (fun x => s.val (Pipe.val (p.take i) x)) = Pipe.val (p.take (i + 1)) := funext fun x => (Pipe.val_take h x).symm
end My
namespace My
open PySem L2
theorem kmt_lcount {X : Cx} (K : PySem.W.Frag) (h : X.K = K := by rfl) : MtR X "list.count" (rCntI K) := by subst h; exact mt_lcount
theorem r_lcount {K : PySem.W.Frag} {H : Hp} {Q : VK} {p : Addr} {ns : List Int} {k : Int} (h : SqL K H p (ns.map V.int)) (q : Q (.int (ns.count k : Nat)) H) : rCntI K (.ref p) [.int k] H Q := ⟨p, ns, k, rfl, rfl, h, q⟩
theorem r_tyL' {K' K : PySem.W.Frag} {H : Hp} {A : Prop} {l : Addr} {xs : List V} (h : H l = some (.lst xs)) (q : A) : tyV K' "list" (.ref l) H ∧ A := ⟨.inl ⟨rfl, _, SqL.of h⟩, q⟩
end My
namespace My
open PySem L2
theorem r_ixRange {K : PySem.W.Frag} {H : Hp} {Q : VK} {a : Addr} {f : Nat → Int} {n : Nat} {j : Int} (h : SqL K H a (((List.range n).map f).map V.int)) (h0 : 0 ≤ j) (h1 : j < n) (q : Q (.int (f j.toNat)) H) : rIxL K (.ref a) (.int j) H Q :=
  r_ixL h (at_of (j := j.toNat) (by omega) (by rw [List.getElem?_map, List.getElem?_map, List.getElem?_range (by omega)]; rfl)) q
theorem QP.of_window2 {f : Int → Int} {L R d g : Int} (hL : 0 < L) (hq : QP f L R) (h : ∀ x, 0 ≤ x → x < L → f (x + d) - f x = g) : QP f d g := by
  intro x
  have e := Int.mul_ediv_add_emod x L
  have b := emod_b (x := x) hL
  have hk := hq.mul (x / L)
  have h1 := h (x % L) b.1 b.2
  have a1 := hk (x % L + d)
  have a2 := hk (x % L)
  rw [Int.mul_comm] at e
  rw [show x % L + d + x / L * L = x + d by omega] at a1
  rw [show x % L + x / L * L = x by omega] at a2
  omega
theorem least_found2 {f : Int → Int} {n d : Nat} {R g : Int} (hn : 0 < n) (hq : QP f n R) (hd : 0 < d) (hw : QP f d g) (hno : ∀ e : Nat, 0 < e → e < d → n % e = 0 → ¬ ∃ g', QP f e g') : Least f d g := by
  obtain ⟨P, R', hl⟩ := QP.least (f := f) (P := (n : Int)) (R := R) (by omega) hq
  have hle := hl.least _ _ (by omega) hw
  have hdv := hl.dvd hq
  have hp := hl.pos
  have e : P = d := by
    rcases Int.lt_or_eq_of_le hle with hlt | he
    · exfalso
      have en : n % P.toNat = 0 := by
        have : ((n : Int)) % P = 0 := by rw [hdv.1]; exact Int.mul_emod_right _ _
        have h2 : ((n % P.toNat : Nat) : Int) = 0 := by rw [Int.natCast_emod, Int.toNat_of_nonneg (by omega)]; exact this
        omega
      refine hno P.toNat (by omega) (by omega) en ⟨R', ?_⟩
      rw [show ((P.toNat : Nat) : Int) = P by omega]; exact hl.qp
    · exact he
  subst e
  exact ⟨hp, hw, hl.least⟩
/-- the gaps at a distance are all alike -/
def gapsL (f : Int → Int) (n : Nat) (d : Int) : List Int := (List.range n).map fun (x : Nat) => f ((x : Int) + d) - f x
theorem gaps_iff {f : Int → Int} {n : Nat} {d R : Int} (hn : 0 < n) (hq : QP f n R) : ((gapsL f n d).count (f d - f 0) : Int) = ((gapsL f n d).length : Int) ↔ QP f d (f d - f 0) := by
  rw [Int.ofNat_inj, List.count_eq_length]
  constructor
  · intro h
    refine QP.of_window2 (L := n) (R := R) (by omega) hq fun x h0 h1 => ?_
    have := h (f (x + d) - f x) (by
      unfold gapsL
      refine List.mem_map.mpr ⟨x.toNat, List.mem_range.mpr (by omega), ?_⟩
      rw [show ((x.toNat : Nat) : Int) = x by omega])
    omega
  · intro h b hb
    unfold gapsL at hb
    obtain ⟨x, _, rfl⟩ := List.mem_map.mp hb
    rw [h]; omega
end My
namespace My
open PySem L2
def scaled (f : Int → Int) (P R : Int) : List Int := (List.range P.toNat).map fun (x : Nat) => P * f x - R * x
def IsMin (m : Int) (l : List Int) : Prop := m ∈ l ∧ ∀ y ∈ l, m ≤ y
def IsMax (m : Int) (l : List Int) : Prop := m ∈ l ∧ ∀ y ∈ l, y ≤ m
theorem scaled_ne {f : Int → Int} {P R : Int} (h : 0 < P) : 0 < (scaled f P R).length := by simp [scaled]; omega
theorem IsMin.uniq {m m' : Int} {l : List Int} (h : IsMin m l) (h' : IsMin m' l) : m = m' := Int.le_antisymm (h.2 _ h'.1) (h'.2 _ h.1)
theorem IsMax.uniq {m m' : Int} {l : List Int} (h : IsMax m l) (h' : IsMax m' l) : m = m' := Int.le_antisymm (h'.2 _ h.1) (h.2 _ h'.1)
theorem r_minX {K : PySem.W.Frag} {a : Addr} {ns : List Int} {H : Hp} {Q : VK} (h : SqL K H a (ns.map V.int)) (n0 : 0 < ns.length) (q : ∀ m, IsMin m ns → Q (.int m) H) : rMin K [.ref a] H Q := ⟨a, ns, rfl, h, n0, fun m hm hl => q m ⟨hm, hl⟩⟩
theorem r_maxX {K : PySem.W.Frag} {a : Addr} {ns : List Int} {H : Hp} {Q : VK} (h : SqL K H a (ns.map V.int)) (n0 : 0 < ns.length) (q : ∀ m, IsMax m ns → Q (.int m) H) : rMax K [.ref a] H Q := ⟨a, ns, rfl, h, n0, fun m hm hl => q m ⟨hm, hl⟩⟩
abbrev frD (t b : Int) : PyData := .tuple [.int (frTop t b), .int (frBot t b)]
abbrev nfD (f : Int → Int) (P : Int) : PyData := .tuple [.int P, .int (f 0), .tuple ((diffs f P.toNat).map PyData.int)]

theorem cutV_whole {xs : List V} {lo hi : Option Int} (h : HT.sIx xs.length 0 lo = 0 ∧ HT.sIx xs.length xs.length hi = xs.length) : cutV xs lo hi = xs := by
  unfold cutV; rw [h.1, h.2]; simp
section
variable {K : PySem.W.Frag} {H : Hp} {Q : VK}
theorem r_slT {a : Addr} {xs : List V} {lo hi : Option Int} (h : SqT K H a xs) (q : ∀ p H', Same H H' → SqT K H' p (cutV xs lo hi) → Q (.ref p) H') : rSlA K (.ref a) lo hi H Q :=
  ⟨a, xs, rfl, h, fun hw => q a H (Same.refl _) (by rw [cutV_whole hw]; exact h), fun _ p n => q p _ (Same.up (Same.refl _) n) SqT.new⟩
theorem r_catT {a b : Addr} {xs ys : List V} (h : SqT K H a xs) (h' : SqT K H b ys) (s : xs.length + ys.length ≤ sizeLine) (q : ∀ p H', Same H H' → SqT K H' p (xs ++ ys) → Q (.ref p) H') : rCatA K (.ref a) (.ref b) H Q :=
  ⟨a, b, xs, ys, rfl, rfl, h, h', s, fun e => q b H (Same.refl _) (by rw [e]; exact h'), fun _ e => q a H (Same.refl _) (by rw [e, List.append_nil]; exact h), fun _ _ p n => q p _ (Same.up (Same.refl _) n) SqT.new⟩
theorem Paired.take' {α β : Type} {F : α → β → Prop} : ∀ (n : Nat) {xs : List α} {ys : List β}, Paired F xs ys → Paired F (xs.take n) (ys.take n)
  | 0, _, _, _ => by simp; exact .nil
  | _ + 1, _, _, .nil => .nil
  | n + 1, _, _, .cons r t => .cons r (Paired.take' n t)
theorem Paired.drop' {α β : Type} {F : α → β → Prop} : ∀ (n : Nat) {xs : List α} {ys : List β}, Paired F xs ys → Paired F (xs.drop n) (ys.drop n)
  | 0, _, _, h => h
  | _ + 1, _, _, .nil => .nil
  | n + 1, _, _, .cons _ t => Paired.drop' n t
theorem Paired.app {α β : Type} {F : α → β → Prop} : ∀ {xs xs' : List α} {ys ys' : List β}, Paired F xs ys → Paired F xs' ys' → Paired F (xs ++ xs') (ys ++ ys')
  | _, _, _, _, .nil, s => s
  | _, _, _, _, .cons r t, s => .cons r (Paired.app t s)
theorem r_slPto {a : Addr} {p : Pipe} {n : Nat} (h : PipeAt K H (.ref a) p) (q : ∀ c H', Same H H' → PipeAt K H' (.ref c) (p.take n) → Q (.ref c) H') : rSlA K (.ref a) none (some ((n : Nat) : Int)) H Q := by
  obtain ⟨_, xs, e, h, r⟩ := h
  cases e
  exact r_slT h fun c H' hs ht => q c H' hs ⟨c, _, rfl, ht, by rw [cut_to]; exact Paired.mapP (Paired.take' n r) fun _ _ => StepAt.same hs⟩
theorem r_slPfrom {a : Addr} {p : Pipe} {n : Nat} (h : PipeAt K H (.ref a) p) (q : ∀ c H', Same H H' → PipeAt K H' (.ref c) (p.drop n) → Q (.ref c) H') : rSlA K (.ref a) (some ((n : Nat) : Int)) none H Q := by
  obtain ⟨_, xs, e, h, r⟩ := h
  cases e
  exact r_slT h fun c H' hs ht => q c H' hs ⟨c, _, rfl, ht, by rw [cut_from]; exact Paired.mapP (Paired.drop' n r) fun _ _ => StepAt.same hs⟩
theorem r_slP2 {a : Addr} {p : Pipe} (h : PipeAt K H (.ref a) p) (q : ∀ c H', Same H H' → PipeAt K H' (.ref c) (p.take 2) → Q (.ref c) H') : rSlA K (.ref a) none (some 2) H Q := r_slPto (n := 2) h q
theorem r_catP {a b : Addr} {p p' : Pipe} (h : PipeAt K H (.ref a) p) (h' : PipeAt K H (.ref b) p') (s : p.length + p'.length ≤ 1000) (q : ∀ c H', Same H H' → PipeAt K H' (.ref c) (p ++ p') → Q (.ref c) H') : rCatA K (.ref a) (.ref b) H Q := by
  obtain ⟨_, xs, e, h, r⟩ := h
  cases e
  obtain ⟨_, ys, e, h', r'⟩ := h'
  cases e
  exact r_catT h h' (by rw [Paired.len r, Paired.len r']; exact sz_le (by omega)) fun c H' hs ht => q c H' hs ⟨c, _, rfl, ht, Paired.mapP (Paired.app r r') fun _ _ => StepAt.same hs⟩
end
/-! ### a least period by computation -/
def qpChk (p : Pipe) (d r : Int) : Bool := (List.range p.prod.toNat).all fun (x : Nat) => p.val ((x : Int) + d) - p.val x == r
def leastChk (p : Pipe) (d : Nat) (r : Int) : Bool := decide p.pos && decide (0 < d) && qpChk p d r && (List.range d).all fun (e : Nat) => e == 0 || !qpChk p e (p.val e - p.val 0)
theorem qpChk_iff {p : Pipe} (h : p.pos) {d r : Int} : qpChk p d r = true ↔ QP p.val d r := by
  have hp := Pipe.prod_pos' h
  unfold qpChk
  simp only [List.all_eq_true, List.mem_range, beq_iff_eq]
  constructor
  · intro hx
    refine QP.of_window2 (L := p.prod) (R := p.rises) (by omega) (Pipe.qp h) fun x h0 h1 => ?_
    have := hx x.toNat (by omega)
    rwa [show ((x.toNat : Nat) : Int) = x by omega] at this
  · intro hq x _
    rw [hq]; omega
theorem least_of {p : Pipe} {d : Nat} {r : Int} (h : leastChk p d r = true) : Least p.val d r := by
  unfold leastChk at h
  simp only [Bool.and_eq_true, decide_eq_true_eq, List.all_eq_true, List.mem_range, Bool.or_eq_true, beq_iff_eq, Bool.not_eq_true'] at h
  obtain ⟨⟨⟨hp, hd⟩, hq⟩, hno⟩ := h
  refine ⟨by omega, (qpChk_iff hp).mp hq, fun P' R' h1 h2 => ?_⟩
  rcases Int.lt_or_le P' d with hlt | hle
  · exfalso
    have := hno P'.toNat (by omega)
    rcases this with h | h
    · omega
    · have e : ((P'.toNat : Nat) : Int) = P' := by omega
      rw [e] at h
      have eR : R' = p.val P' - p.val 0 := by have := h2 0; rw [Int.zero_add] at this; omega
      rw [eR] at h2
      rw [(qpChk_iff hp).mpr h2] at h
      cases h
  · exact hle
end My
namespace My
open PySem L2
theorem fl_pipes {K : PySem.W.Frag} {a : Addr} {xs : List V} {g : TG} {tb : TS} {D : Ends} {σ : St} {H : Hp} (hS : SqT K H a xs) (hall : ∀ x ∈ xs, ∃ p, PipeAt K H x p) (Pv : St → Hp → Prop) (h0 : Pv σ H)
    (hs : ∀ x p σ' H', Same H H' → PipeAt K H' x p → Pv σ' H' → g x σ' H' fun σ2 H2 => tb { D with nx := fun σ3 H3 => Same H H3 ∧ Pv σ3 H3, ct := fun σ3 H3 => Same H H3 ∧ Pv σ3 H3, bk := D.nx } σ2 H2)
    (hd : ∀ σ' H', Pv σ' H' → D.nx σ' H') : FLoop (Itt K a) g tb D σ H := by
  refine fl_tup (xs := xs) (fun _ σ' H' => Same H H' ∧ Pv σ' H') ⟨Same.refl _, h0⟩ (fun _ _ _ _ h => SqT.hs h.1 hS) (fun i x σ' H' hx h => ?_) (fun σ' H' h => hd _ _ h.2)
  obtain ⟨p, hp⟩ := hall x (List.mem_of_getElem? hx)
  exact hs x p σ' H' h.1 (PipeAt.hs h.1 hp) h.2
theorem shaped_nf (f : Int → Int) (P : Int) : SeqAt.shaped (nfD f P) = true := by
  have h := lay_ints (diffs f P.toNat)
  unfold SeqAt.shaped
  simp [nfD, PyData.canLay0, PyData.canLayAll0, PyData.depth, PyData.depthAll, h.1, h.2]
end My

/-! ### sum, min and max of a tuple of ints -/
namespace My
open PySem L2 PyProof.Rows
section
variable {prog : Program} {w : World} {A : Around} {E : Value → Shared → Prop} {s : Shared} {l : Addr} {xs : Array (Int × Tok)}
theorem iter_intTup {Q : Value → Shared → Prop} (hl : s.heap.IsTuple l (intItems xs))
    (h : ∀ s₂ : Shared, s₂ = { s with heap := s.heap.push { cls := .type "tuple_iterator", data := .fields #[.ref l, .int 0 0] } } →
      (s₂.heap.IsTupleIter s.heap.objs.size l 0 ∧ s₂.heap.IsTuple l (intItems xs)) → (∀ b ∈ [s.heap.objs.size, l], b < s₂.heap.objs.size) → l ≠ s.heap.objs.size → Q (.ref s.heap.objs.size) s₂) :
    wpAny (model prog w) A (pyIter (.ref l)) Q E s := by
  have hlt : l < s.heap.objs.size := by obtain ⟨_, e, _⟩ := hl; exact Heap.lt_size e
  refine wpAny_pyIter_tuple hl (h _ rfl ⟨⟨_, Heap.get?_push_size _ rfl, rfl, rfl⟩, hl.push _⟩ (fun b hb => ?_) (Nat.ne_of_lt hlt))
  show b < (s.heap.push _).objs.size
  rw [Heap.size_push]
  rcases List.mem_cons.mp hb with rfl | hb
  · exact Nat.lt_succ_self _
  · rcases List.mem_cons.mp hb with rfl | hb
    · exact Nat.lt_succ_of_lt hlt
    · cases hb
theorem old_keptT {h' : Heap} (hk : ∀ b o, b ∉ [s.heap.objs.size] → (s.heap.push { cls := .type "tuple_iterator", data := .fields #[.ref l, .int 0 0] }).get? b = some o → h'.get? b = some o) :
    ∀ b o, s.heap.get? b = some o → h'.get? b = some o := fun b o e => by
  refine hk b o (fun hm => ?_) (Heap.get?_push_of_some _ e)
  rcases List.mem_cons.mp hm with e1 | hm
  · exact absurd (e1 ▸ Heap.lt_size e) (Nat.lt_irrefl _)
  · cases hm
theorem max_intTup {Q : Value → Shared → Prop} (hh : A.handled = none) (hl : s.heap.IsTuple l (intItems xs)) (hne : 0 < xs.size)
    (h : ∀ v h' tk, (intItems xs)[argBest (fun i j => decide (numAt xs i > numAt xs j)) (xs.size - 1)]? = some v → (∀ b o, s.heap.get? b = some o → h'.get? b = some o) → Q v { s with heap := h', toks := tk }) :
    wpAny (model prog w) A (call (.builtin "max") [.ref l]) Q E s := by
  refine call_max_walk (iter_intTup hl fun s₂ e st hfp hlI => ?_)
  subst e
  refine ⟨_, _, _, _, _, _, _, rfl, Walks.tuple (A := A.in1) hh _ l hlI (intItems xs), st, hfp, by simpa [intItems] using hne, CmpOf.ints_gt (numAt xs) (fun _ _ => intItems_at), fun v h' tk hP hk => ?_⟩
  exact h v h' tk (by simpa [intItems] using hP) (old_keptT hk)
theorem min_intTup {Q : Value → Shared → Prop} (hh : A.handled = none) (hl : s.heap.IsTuple l (intItems xs)) (hne : 0 < xs.size)
    (h : ∀ v h' tk, (intItems xs)[argBest (fun i j => decide (numAt xs i < numAt xs j)) (xs.size - 1)]? = some v → (∀ b o, s.heap.get? b = some o → h'.get? b = some o) → Q v { s with heap := h', toks := tk }) :
    wpAny (model prog w) A (call (.builtin "min") [.ref l]) Q E s := by
  refine call_min_walk (iter_intTup hl fun s₂ e st hfp hlI => ?_)
  subst e
  refine ⟨_, _, _, _, _, _, _, rfl, Walks.tuple (A := A.in1) hh _ l hlI (intItems xs), st, hfp, by simpa [intItems] using hne, CmpOf.ints_lt (numAt xs) (fun _ _ => intItems_at), fun v h' tk hP hk => ?_⟩
  exact h v h' tk (by simpa [intItems] using hP) (old_keptT hk)
theorem sum_intTup {Q : Value → Shared → Prop} (hh : A.handled = none) (hl : s.heap.IsTuple l (intItems xs))
    (h : ∀ h' tk t', (∀ b o, s.heap.get? b = some o → h'.get? b = some o) → Q (.int (preSum (numAt xs) xs.size) t') { s with heap := h', toks := tk }) :
    wpAny (model prog w) A (call (.builtin "sum") [.ref l]) Q E s := by
  refine call_sum_walkG (iter_intTup hl fun s₂ e st hfp hlI => ?_)
  subst e
  refine ⟨_, _, _, _, _, _, numAt xs, rfl, Walks.tuple (A := A.in1) hh _ l hlI (intItems xs), st, hfp, (fun _ _ => intItems_at), fun h' tk t' hk => ?_⟩
  have := h h' tk t' (old_keptT hk)
  simpa [intItems] using this
end
section
variable {prog : Program} {w : World} {A : Around} {E : Value → Shared → Prop} {s : Shared} {l : Addr} {its : List Value} {ns : List Int} {Q : Value → Shared → Prop}
theorem sum_rawT (hh : A.handled = none) (hl : s.heap.IsTuple l its.toArray) (hi : IntsAre its ns)
    (h : ∀ h' tk t', (∀ b o, s.heap.get? b = some o → h'.get? b = some o) → Q (.int ns.sum t') { s with heap := h', toks := tk }) : wpAny (model prog w) A (call (.builtin "sum") [.ref l]) Q E s := by
  obtain ⟨xs, e⟩ := hi.allInts.items
  have hn : numsOf (intItems xs).toList = ns := by rw [← e]; exact hi.numsOf
  rw [nums_intItems] at hn
  rw [e] at hl
  refine sum_intTup hh hl fun h' tk t' hk => ?_
  have := h h' tk t' hk
  rw [preSum_eq, List.take_of_length_le (by simp), hn]; exact this
theorem max_rawT (hh : A.handled = none) (hl : s.heap.IsTuple l its.toArray) (hi : IntsAre its ns) (hne : 0 < ns.length)
    (h : ∀ h' tk M t', (∀ b o, s.heap.get? b = some o → h'.get? b = some o) → M ∈ ns → (∀ a, a ∈ ns → a ≤ M) → Q (.int M t') { s with heap := h', toks := tk }) : wpAny (model prog w) A (call (.builtin "max") [.ref l]) Q E s := by
  obtain ⟨xs, e⟩ := hi.allInts.items
  have hn : numsOf (intItems xs).toList = ns := by rw [← e]; exact hi.numsOf
  rw [nums_intItems] at hn
  subst hn
  rw [e] at hl
  have hsz : 0 < xs.size := by simpa using hne
  refine max_intTup hh hl hsz fun v h' tk hv hk => ?_
  obtain ⟨t, rfl⟩ := intItems_at hv
  obtain ⟨h1, h2⟩ := argBest_gt (numAt xs) (xs.size - 1)
  refine h h' tk _ t hk ?_ fun a ha => ?_
  · rw [numAt_eq]; exact PySem.getD_mem (by rw [List.length_map, Array.length_toList]; omega)
  · obtain ⟨j, hj, rfl⟩ := mem_getD ha
    rw [List.length_map, Array.length_toList] at hj
    rw [← numAt_eq]; exact h2 j (by omega)
theorem min_rawT (hh : A.handled = none) (hl : s.heap.IsTuple l its.toArray) (hi : IntsAre its ns) (hne : 0 < ns.length)
    (h : ∀ h' tk M t', (∀ b o, s.heap.get? b = some o → h'.get? b = some o) → M ∈ ns → (∀ a, a ∈ ns → M ≤ a) → Q (.int M t') { s with heap := h', toks := tk }) : wpAny (model prog w) A (call (.builtin "min") [.ref l]) Q E s := by
  obtain ⟨xs, e⟩ := hi.allInts.items
  have hn : numsOf (intItems xs).toList = ns := by rw [← e]; exact hi.numsOf
  rw [nums_intItems] at hn
  subst hn
  rw [e] at hl
  have hsz : 0 < xs.size := by simpa using hne
  refine min_intTup hh hl hsz fun v h' tk hv hk => ?_
  obtain ⟨t, rfl⟩ := intItems_at hv
  obtain ⟨h1, h2⟩ := argBest_lt (numAt xs) (xs.size - 1)
  refine h h' tk _ t hk ?_ fun a ha => ?_
  · rw [numAt_eq]; exact PySem.getD_mem (by rw [List.length_map, Array.length_toList]; omega)
  · obtain ⟨j, hj, rfl⟩ := mem_getD ha
    rw [List.length_map, Array.length_toList] at hj
    rw [← numAt_eq]; exact h2 j (by omega)
end
section
variable {X : Cx} (K : PySem.W.Frag)
def rSumT (K : PySem.W.Frag) : List V → Hp → VK → Prop := fun vs H Q => ∃ (a : Addr) (ns : List Int), vs = [V.ref a] ∧ SqT K H a (ns.map V.int) ∧ Q (.int ns.sum) H
def rMinT (K : PySem.W.Frag) : List V → Hp → VK → Prop := fun vs H Q => ∃ (a : Addr) (ns : List Int), vs = [V.ref a] ∧ SqT K H a (ns.map V.int) ∧ 0 < ns.length ∧ ∀ m, m ∈ ns → (∀ y, y ∈ ns → m ≤ y) → Q (.int m) H
def rMaxT (K : PySem.W.Frag) : List V → Hp → VK → Prop := fun vs H Q => ∃ (a : Addr) (ns : List Int), vs = [V.ref a] ∧ SqT K H a (ns.map V.int) ∧ 0 < ns.length ∧ ∀ m, m ∈ ns → (∀ y, y ∈ ns → y ≤ m) → Q (.int m) H
theorem ksumT (hc : X.calm = true := by rfl) (h : X.K = K := by rfl) : CallR X (.builtin "sum") (rSumT K) := by
  subst h
  intro pins s σ H vs us Q I r h
  obtain ⟨a, ns, rfl, hs, q⟩ := h
  obtain ⟨its, rv, hl, _⟩ := I.tuple hs
  rw [Vals.ref1 r]
  exact sum_rawT (I.ok.hd hc) hl rv.ints fun h' tk t' hk => ⟨.int _, H, I.kept hk, ⟨_, rfl⟩, q⟩
theorem kmaxT (hc : X.calm = true := by rfl) (h : X.K = K := by rfl) : CallR X (.builtin "max") (rMaxT K) := by
  subst h
  intro pins s σ H vs us Q I r h
  obtain ⟨a, ns, rfl, hs, hne, q⟩ := h
  obtain ⟨its, rv, hl, _⟩ := I.tuple hs
  rw [Vals.ref1 r]
  exact max_rawT (I.ok.hd hc) hl rv.ints hne fun h' tk m t' hk h1 h2 => ⟨.int _, H, I.kept hk, ⟨_, rfl⟩, q m h1 h2⟩
theorem kminT (hc : X.calm = true := by rfl) (h : X.K = K := by rfl) : CallR X (.builtin "min") (rMinT K) := by
  subst h
  intro pins s σ H vs us Q I r h
  obtain ⟨a, ns, rfl, hs, hne, q⟩ := h
  obtain ⟨its, rv, hl, _⟩ := I.tuple hs
  rw [Vals.ref1 r]
  exact min_rawT (I.ok.hd hc) hl rv.ints hne fun h' tk m t' hk h1 h2 => ⟨.int _, H, I.kept hk, ⟨_, rfl⟩, q m h1 h2⟩
end
section
variable {K : PySem.W.Frag} {H : Hp} {Q : VK} {a b : Addr} {ns ms : List Int}
theorem r_sumT (h : SqT K H a (ns.map V.int)) (q : Q (.int ns.sum) H) : rSumT K [.ref a] H Q := ⟨a, ns, rfl, h, q⟩
theorem r_minT (h : SqT K H a (ns.map V.int)) (n0 : 0 < ns.length) (q : ∀ m, IsMin m ns → Q (.int m) H) : rMinT K [.ref a] H Q := ⟨a, ns, rfl, h, n0, fun m h1 h2 => q m ⟨h1, h2⟩⟩
theorem r_maxT (h : SqT K H a (ns.map V.int)) (n0 : 0 < ns.length) (q : ∀ m, IsMax m ns → Q (.int m) H) : rMaxT K [.ref a] H Q := ⟨a, ns, rfl, h, n0, fun m h1 h2 => q m ⟨h1, h2⟩⟩
theorem r_slTfrom {i : Int} (h : SqT K H a (ns.map V.int)) (hi : 0 ≤ i) (q : ∀ p H', Same H H' → SqT K H' p ((ns.drop i.toNat).map V.int) → Q (.ref p) H') : rSlA K (.ref a) (some i) none H Q :=
  r_slT h fun p H' s f => q p H' s (by rw [cut_from' _ hi, ← List.map_drop] at f; exact f)
theorem r_slTto {i : Int} (h : SqT K H a (ns.map V.int)) (hi : 0 ≤ i) (q : ∀ p H', Same H H' → SqT K H' p ((ns.take i.toNat).map V.int) → Q (.ref p) H') : rSlA K (.ref a) none (some i) H Q :=
  r_slT h fun p H' s f => q p H' s (by rw [cut_to' _ hi, ← List.map_take] at f; exact f)
theorem r_catTI (h : SqT K H a (ns.map V.int)) (h' : SqT K H b (ms.map V.int)) (s : ns.length + ms.length ≤ 16000000) (q : ∀ p H', Same H H' → SqT K H' p ((ns ++ ms).map V.int) → Q (.ref p) H') : rCatA K (.ref a) (.ref b) H Q :=
  r_catT h h' (by rw [List.length_map, List.length_map, PySem.sizeLine_eq]; omega) fun p H' s f => q p H' s (by rw [List.map_append]; exact f)
theorem eqvT_ints (ns ms : List Int) : PyData.eqv (.tuple (ns.map PyData.int)) (.tuple (ms.map PyData.int)) = decide (ns = ms) := by
  rw [show PyData.eqv (.tuple (ns.map PyData.int)) (.tuple (ms.map PyData.int)) = PyData.eqvAll (ns.map PyData.int) (ms.map PyData.int) by rw [PyData.eqv], eqv_ints]
theorem r_eqIntsTD (h1 : SqT K H a (ns.map V.int)) (h2 : SqT K H b (ms.map V.int)) (q : Q (.bl (decide (ns = ms))) H) : rEqD K (.ref a) (.ref b) H Q :=
  r_eqD (dpIntsT h1) (dpIntsT h2) (shaped_intsT ns) (shaped_intsT ms) (by rw [eqvT_ints]; exact q)
end
/-! ### values read back -/
section
variable {K : PySem.W.Frag} {H : Hp}
theorem DpAll.ints : ∀ {xs : List V} {ns : List Int}, DpAll K H xs (ns.map PyData.int) → xs = ns.map V.int
  | _, [], h => by cases h; rfl
  | _, n :: ns, h => by
    cases h with
    | cons a t => cases a; rw [DpAll.ints t]; rfl
theorem Dp.nfd {v : V} {f : Int → Int} {P : Int} (h : Dp K H v (nfD f P)) : ∃ a g, v = .ref a ∧ SqT K H a [.int P, .int (f 0), .ref g] ∧ SqT K H g ((diffs f P.toNat).map V.int) := by
  cases h with
  | tup ha r =>
    cases r with
    | cons r1 r => cases r1; cases r with
      | cons r2 r => cases r2; cases r with
        | cons r3 r => cases r; cases r3 with
          | tup hg r => rw [DpAll.ints r] at hg; exact ⟨_, _, rfl, ha, hg⟩
theorem Dp.fr2 {v : V} {t1 b1 t2 b2 : Int} (h : Dp K H v (.tuple [.tuple [.int t1, .int b1], .tuple [.int t2, .int b2]])) :
    ∃ a l g, v = .ref a ∧ SqT K H a [.ref l, .ref g] ∧ SqT K H l [.int t1, .int b1] ∧ SqT K H g [.int t2, .int b2] := by
  cases h with
  | tup ha r =>
    cases r with
    | cons r1 r => cases r with
      | cons r2 r => cases r; cases r1 with
        | tup hl q1 => cases r2 with
          | tup hg q2 =>
            cases q1 with | cons a1 q1 => cases a1; cases q1 with | cons a2 q1 => cases a2; cases q1; cases q2 with | cons a3 q2 => cases a3; cases q2 with | cons a4 q2 => cases a4; cases q2; exact ⟨_, _, _, rfl, ha, hl, hg⟩
end
end My
namespace My
open PySem L2
/-! ### fractions of one value -/
theorem fr_spec {t b : Int} (hb : 0 < b) : ∃ g, 0 < g ∧ g = gcdI (absI t) b ∧ t = g * frTop t b ∧ b = g * frBot t b ∧ 0 < frBot t b := by
  have hg := gcdI_pos (a := absI t) hb
  have e2 := gcdI_dvd_right (a := absI t) (b := b) (by omega)
  have e1 := gcdI_dvd_left (b := b) (absI_nn t)
  refine ⟨gcdI (absI t) b, by omega, rfl, ?_, e2, ?_⟩
  · have hd : gcdI (absI t) b ∣ t := by
      have h0 : gcdI (absI t) b ∣ absI t := ⟨_, e1⟩
      unfold absI at h0 ⊢
      split at h0
      · rename_i hneg; rw [if_pos hneg]; exact (Int.dvd_neg).mp h0
      · rename_i hneg; rw [if_neg hneg]; exact h0
    exact (Int.mul_ediv_cancel' hd).symm
  · show 0 < b / gcdI (absI t) b
    rcases Int.lt_or_le 0 (b / gcdI (absI t) b) with h | h
    · exact h
    · exfalso
      have := Int.mul_le_mul_of_nonneg_left h (show 0 ≤ gcdI (absI t) b by omega)
      rw [← e2] at this; omega
theorem fr_cross {t b : Int} (hb : 0 < b) : frTop t b * b = t * frBot t b := by
  obtain ⟨g, hg, _, e1, e2, _⟩ := fr_spec (t := t) hb
  have : ∀ u v : Int, t = g * u → b = g * v → u * b = t * v := by
    intro u v h1 h2
    rw [h1, h2, ← Int.mul_assoc, Int.mul_comm u g]
  exact this _ _ e1 e2
theorem absI_nat (t : Int) : (absI t).toNat = t.natAbs := by unfold absI; split <;> omega
theorem fr_eq {t b t' b' : Int} (hb : 0 < b) (hb' : 0 < b') (e : t * b' = t' * b) : frTop t b = frTop t' b' ∧ frBot t b = frBot t' b' := by
  obtain ⟨g, hg, eg, e1, e2, e3⟩ := fr_spec (t := t) hb
  obtain ⟨g', hg', eg', e1', e2', e3'⟩ := fr_spec (t := t') hb'
  have hgg : g * b' = g' * b := by
    rw [eg, eg']
    unfold gcdI
    rw [absI_nat, absI_nat]
    have h1 : t.natAbs * b'.toNat = t'.natAbs * b.toNat := by
      have := congrArg Int.natAbs e
      rw [Int.natAbs_mul, Int.natAbs_mul] at this
      rwa [show b'.natAbs = b'.toNat by omega, show b.natAbs = b.toNat by omega] at this
    have h2 : t.natAbs.gcd b.toNat * b'.toNat = t'.natAbs.gcd b'.toNat * b.toNat := by
      rw [← Nat.gcd_mul_right, ← Nat.gcd_mul_right, h1, Nat.mul_comm b.toNat b'.toNat]
    have h3 := congrArg (fun n : Nat => (n : Int)) h2
    simp only [Int.natCast_mul] at h3
    rwa [show ((b'.toNat : Nat) : Int) = b' by omega, show ((b.toNat : Nat) : Int) = b by omega] at h3
  have hbot : frBot t b = frBot t' b' := by
    have h : (g * g') * frBot t' b' = (g * g') * frBot t b := by
      rw [Int.mul_assoc, ← e2', hgg, Int.mul_comm g g', Int.mul_assoc, ← e2]
    exact (Int.eq_of_mul_eq_mul_left (by have := Int.mul_pos hg hg'; omega) h).symm
  refine ⟨?_, hbot⟩
  have h : (g * b') * frTop t b = (g * b') * frTop t' b' := by
    have a1 : (g * b') * frTop t b = t * b' := by rw [Int.mul_right_comm, ← e1]
    have a2 : (g * b') * frTop t' b' = t' * b := by rw [hgg, Int.mul_right_comm, ← e1']
    rw [a1, a2, e]
  exact Int.eq_of_mul_eq_mul_left (by have := Int.mul_pos hg hb'; omega) h
/-! ### values a whole number of periods on -/
theorem QP.at {f : Int → Int} {P R : Int} (h : QP f P R) (x : Int) : f x = f (x % P) + x / P * R := by
  have := h.mul (x / P) (x % P)
  rw [Int.mul_comm (x / P) P, Int.emod_add_mul_ediv] at this
  exact this
theorem QP.top {f : Int → Int} {P R : Int} (h : QP f P R) (hP : 0 < P) (x : Int) : f x * P - x * R ∈ scaled f P R := by
  unfold scaled
  have h1 := Int.emod_nonneg x (show P ≠ 0 by omega)
  have h2 := Int.emod_lt_of_pos x hP
  refine List.mem_map.mpr ⟨(x % P).toNat, List.mem_range.mpr (by omega), ?_⟩
  rw [show (((x % P).toNat : Nat) : Int) = x % P by omega]
  have e := h.at x
  have e2 : x = x % P + x / P * P := by rw [Int.mul_comm (x / P) P, Int.emod_add_mul_ediv]
  generalize x / P = q at *
  generalize x % P = r at *
  rw [e, e2, Int.add_mul, Int.add_mul, Int.mul_comm P (f r), Int.mul_comm R r, Int.mul_assoc q R P, Int.mul_assoc q P R, Int.mul_comm R P]
  omega
theorem diffs_nn {p : Pipe} (h : p.pos) (n : Nat) : ∀ y ∈ diffs p.val n, 0 ≤ y := by
  intro y hy
  unfold diffs at hy
  obtain ⟨x, _, rfl⟩ := List.mem_map.mp hy
  have := Pipe.mono h (show (x : Int) ≤ (x : Int) + 1 by omega)
  omega
theorem spread_cross {t u b c hi lo P : Int} (h1 : t * P = hi * b) (h2 : u * P = lo * c) : (t * c - u * b) * P = (hi - lo) * (b * c) := by
  rw [Int.sub_mul, Int.mul_right_comm, h1, Int.mul_right_comm u b P, h2, Int.sub_mul, Int.mul_assoc hi b c, Int.mul_assoc lo c b, Int.mul_comm c b]
end My
namespace My
theorem ediv_big {x P B : Int} (h : -B ≤ x ∧ x ≤ B) (hP : 0 < P) : -B ≤ x / P ∧ x / P ≤ B := by
  have hB : 0 ≤ B := by omega
  have := Int.mul_le_mul_of_nonneg_left (show 1 ≤ P by omega) hB
  constructor
  · exact Int.le_ediv_of_mul_le hP (by rw [Int.neg_mul]; omega)
  · exact Int.ediv_le_of_le_mul hP (by omega)
end My

namespace My
open PySem L2
/-! ### more comprehensions: a range with a condition, an enumerated list -/
section
variable {K : PySem.W.Frag} {σ : St} {H : Hp} {Q : VK} {te : TE}
theorem ll_rangeF {i0 : Nat} {lo : Int} {n : Nat} {tt : TT} (f : Nat → V) (c : Nat → Bool) (hsz : n < 16777216) (hw : ∀ x, wipe ((wipe σ [i0]).set i0 (some x)) [i0] = wipe σ [i0])
    (ht : ∀ (i : Nat) (H' : Hp) (Q' : Bool → Hp → Prop), i < n → Same H H' → (∀ H4, Same H' H4 → Q' (c i) H4) → tt ((wipe σ [i0]).set i0 (some (.int (lo + i)))) H' Q')
    (hs : ∀ (i : Nat) (H' : Hp) (Q' : VK), i < n → Same H H' → (∀ H4, Same H' H4 → Q' (f i) H4) → te ((wipe σ [i0]).set i0 (some (.int (lo + i)))) H' Q')
    (hd : ∀ D H', Same H H' → H' D = some (.lst (((List.range n).filter c).map f)) → H D = none → Q (.ref D) H') : LLoop (Itr lo n) (gName i0) tt te [i0] σ H Q := by
  refine fun D hD => lc_range (lo := lo) (n := n) (fun i H' => Same H H' ∧ H' D = some (.lst (((List.range i).filter c).map f))) ⟨Same.up (Same.refl _) hD, upd_same⟩ (fun i H' hi h => ?_) (fun H' h => ?_)
  · obtain ⟨h1, h2⟩ := h
    refine ⟨hw _, ?_⟩
    refine ht i H' _ hi h1 fun H3 h3 => ?_
    have e : (List.range (i + 1)).filter c = (List.range i).filter c ++ if c i = true then [i] else [] := by
      rw [List.range_succ, List.filter_append]
      by_cases hc : c i = true
      · simp [hc]
      · simp [hc]
    by_cases hc : c i = true
    · rw [if_pos hc]
      refine hs i H3 _ hi (h1.trans h3) fun H4 h4 => ⟨_, h4 _ _ (h3 _ _ h2), ?_, Same.upN ((h1.trans h3).trans h4) hD, ?_⟩
      · have := List.length_filter_le c (List.range i)
        rw [List.length_range] at this
        rw [List.length_map, PySem.sizeLine_eq]; omega
      · rw [upd_same, e, if_pos hc, List.map_append]; rfl
    · rw [if_neg hc]
      exact ⟨h1.trans h3, by rw [e, if_neg hc, List.append_nil]; exact h3 _ _ h2⟩
  · obtain ⟨h1, h2⟩ := h
    exact hd D H' h1 h2 hD
theorem ll_enum {α : Type} {i0 j0 : Nat} {a : Addr} {xs : List V} {zs : List α} (f : α → V) (hx : SqL K H a xs) (hlen : xs.length = zs.length) (hsz : zs.length < 16777216)
    (hw : ∀ x y, wipe (((wipe σ [i0, j0]).set i0 (some x)).set j0 (some y)) [i0, j0] = wipe σ [i0, j0])
    (hs : ∀ (i : Nat) (x : V) (z : α) (H' : Hp) (Q' : VK), xs[i]? = some x → zs[i]? = some z → Same H H' → (∀ H4, Same H' H4 → Q' (f z) H4) → te (((wipe σ [i0, j0]).set i0 (some (.int (i : Nat)))).set j0 (some x)) H' Q')
    (hd : ∀ D H', Same H H' → H' D = some (.lst (zs.map f)) → H D = none → Q (.ref D) H') : LLoop (Ite K a) (gTup K 2 (gCons (gName i0) (gCons (gName j0) gNil))) tYes te [i0, j0] σ H Q := by
  intro D hD
  refine ⟨fun i m H' => m = zs.length - i ∧ i ≤ zs.length ∧ Same H H' ∧ H' D = some (.lst ((zs.take i).map f)), ⟨_, rfl, Nat.zero_le _, Same.up (Same.refl _) hD, upd_same⟩, ?_⟩
  rintro i m H' ⟨rfl, hi, hS, hl⟩
  by_cases hlt : i < zs.length
  · have ex : xs[i]? = some xs[i] := List.getElem?_eq_getElem (by omega)
    have ez : zs[i]? = some zs[i] := List.getElem?_eq_getElem hlt
    refine .inr ⟨⟨xs, _, SqL.same hS hx, ex⟩, fun H3 => Same H H3 ∧ H3 D = some (.lst ((zs.take (i + 1)).map f)), fun H3 h => ⟨zs.length - (i + 1), by omega, rfl, hlt, h.1, h.2⟩, ?_⟩
    rintro v H2 ⟨T, x, rfl, hT, rfl, fx⟩
    have e1 : x = xs[i] := Option.some.inj ((fx _ (SqL.same hS hx)).symm.trans ex)
    subst e1
    refine ⟨T, _, rfl, SqT.new, rfl, _, _, rfl, _, _, rfl, rfl, hw _ _, ?_⟩
    show te _ _ _
    refine hs i _ _ _ _ ex ez (Same.up hS hT) fun H4 h4 => ⟨_, h4 _ _ (HAt.hu hT hl), ?_, Same.upN ((Same.up hS hT).trans h4) hD, ?_⟩
    · rw [List.length_map, List.length_take, PySem.sizeLine_eq]; omega
    · rw [upd_same, List.take_add_one, ez, List.map_append]; rfl
  · have e : i = zs.length := by omega
    subst e
    refine .inl ⟨⟨xs, SqL.same hS hx, by omega⟩, hd D H' hS ?_ hD⟩
    rw [hl, List.take_length]
theorem r_eqNilI {a b : Addr} {ns : List Int} (h : SqL K H a (ns.map V.int)) (h' : SqL K H b []) (q : Q (.bl (decide (ns = []))) H) : rEqD K (.ref a) (.ref b) H Q :=
  r_eqIntsD (ms := []) h h' q
end
/-! ### one step for a pipeline -/
def asD (P R lo hi : Int) : PyData := if hi ≤ lo + P - 1 then .tuple [.str "scale", .int R, .int P, .int hi] else .none
theorem shaped_asD (P R lo hi : Int) : SeqAt.shaped (asD P R lo hi) = true := by
  unfold asD
  split
  · unfold SeqAt.shaped
    simp [PyData.canLay0, PyData.canLayAll0, PyData.depth, PyData.depthAll]
    decide +kernel
  · rfl
/-- an offset is right at each argument when it lies between the extremes -/
theorem off_iff {f : Int → Int} {P R lo hi o : Int} (hP : 0 < P) (hmn : IsMin lo (scaled f P R)) (hmx : IsMax hi (scaled f P R)) :
    (List.range P.toNat).filter (fun x : Nat => decide ((R * (x : Int) + o) / P ≠ f x)) = [] ↔ hi ≤ o ∧ o ≤ lo + P - 1 := by
  have step : ∀ x : Nat, (R * (x : Int) + o) / P = f x ↔ P * f x - R * x ≤ o ∧ o ≤ P * f x - R * x + P - 1 := by
    intro x
    constructor
    · intro h
      have h1 := Int.mul_ediv_add_emod (R * (x : Int) + o) P
      have h2 := Int.emod_nonneg (R * (x : Int) + o) (show P ≠ 0 by omega)
      have h3 := Int.emod_lt_of_pos (R * (x : Int) + o) hP
      rw [h] at h1
      omega
    · rintro ⟨h1, h2⟩
      have : R * (x : Int) + o = P * f x + (R * x + o - P * f x) := by omega
      rw [this, Int.add_comm, Int.add_mul_ediv_left _ _ (by omega), Int.ediv_eq_zero_of_lt (by omega) (by omega), Int.zero_add]
  rw [List.filter_eq_nil_iff]
  constructor
  · intro h
    have get : ∀ y ∈ scaled f P R, y ≤ o ∧ o ≤ y + P - 1 := by
      intro y hy
      obtain ⟨x, hx, rfl⟩ := List.mem_map.mp hy
      have := h x hx
      simp only [ne_eq, decide_not, Bool.not_eq_true', decide_eq_false_iff_not, Classical.not_not] at this
      exact (step x).mp this
    exact ⟨(get _ hmx.1).1, (get _ hmn.1).2⟩
  · rintro ⟨h1, h2⟩ x hx
    have hm : P * f x - R * x ∈ scaled f P R := List.mem_map.mpr ⟨x, hx, rfl⟩
    have a1 := hmx.2 _ hm
    have a2 := hmn.2 _ hm
    have := (step x).mpr ⟨by omega, by omega⟩
    simp [this]
theorem IsMin.ex : ∀ {l : List Int}, 0 < l.length → ∃ m, IsMin m l
  | [x], _ => ⟨x, List.mem_singleton.mpr rfl, fun y hy => by rw [List.mem_singleton.mp hy]; exact Int.le_refl _⟩
  | x :: y :: l, _ => by
    obtain ⟨m, h1, h2⟩ := IsMin.ex (l := y :: l) (by simp)
    rcases Int.lt_or_le x m with h | h
    · refine ⟨x, List.mem_cons_self, fun z hz => ?_⟩
      rcases List.mem_cons.mp hz with rfl | hz
      · exact Int.le_refl _
      · have := h2 z hz; omega
    · refine ⟨m, List.mem_cons_of_mem _ h1, fun z hz => ?_⟩
      rcases List.mem_cons.mp hz with rfl | hz
      · exact h
      · exact h2 z hz
theorem IsMax.ex : ∀ {l : List Int}, 0 < l.length → ∃ m, IsMax m l
  | [x], _ => ⟨x, List.mem_singleton.mpr rfl, fun y hy => by rw [List.mem_singleton.mp hy]; exact Int.le_refl _⟩
  | x :: y :: l, _ => by
    obtain ⟨m, h1, h2⟩ := IsMax.ex (l := y :: l) (by simp)
    rcases Int.lt_or_le m x with h | h
    · refine ⟨x, List.mem_cons_self, fun z hz => ?_⟩
      rcases List.mem_cons.mp hz with rfl | hz
      · exact Int.le_refl _
      · have := h2 z hz; omega
    · refine ⟨m, List.mem_cons_of_mem _ h1, fun z hz => ?_⟩
      rcases List.mem_cons.mp hz with rfl | hz
      · exact h
      · exact h2 z hz
theorem qb {b b' : Bool} {H : Hp} {Q : Bool → Hp → Prop} (e : b' = b) (q : Q b' H) : Q b H := by rw [← e]; exact q
theorem r_isN {A : Prop} (h : A) : V.non = V.non ∧ A := ⟨rfl, h⟩
theorem s_par3 {i j l : Nat} {ta : TA} {D : Ends} {σ : St} {H : Hp} (h : ta σ H fun vs H1 => ∃ u v w, vs = [u, v, w] ∧ D.nx (((σ.set i (some u)).set j (some v)).set l (some w)) H1) : tPar3 i j l ta D σ H := h
theorem s_par33 {u v w : V} {A : V → V → V → Prop} (h : A u v w) : ∃ u' v' w', [u, v, w] = [u', v', w'] ∧ A u' v' w' := ⟨u, v, w, rfl, h⟩
theorem dp_non {K : PySem.W.Frag} {H : Hp} {d : PyData} (h : Dp K H .non d) : d = .none := by cases h; rfl
theorem dp_none {K : PySem.W.Frag} {H : Hp} {v : V} (h : Dp K H v .none) : v = .non := by cases h; rfl
theorem divs_ok {a b c c' : Int} (ha : 0 ≤ a ∧ a < 10) (hb : 0 ≤ b ∧ b < 10) (hc : 0 ≤ c ∧ c < 1000) (hc' : 0 ≤ c' ∧ c' < 1000) : Pipe.ok [.sc 1 (1 + a) c, .sc 1 (1 + b) c'] := by
  have := Int.mul_le_mul (show 1 + a ≤ 10 by omega) (show 1 + b ≤ 10 by omega) (by omega) (by omega)
  refine ⟨by simp, ?_, ?_⟩
  · intro s hs
    simp only [List.mem_cons, List.not_mem_nil, or_false] at hs
    rcases hs with rfl | rfl <;> simp [Step.ok] <;> omega
  · simp [Pipe.prod, Step.per]; omega
theorem fl_pipesC {K : PySem.W.Frag} {a : Addr} {xs : List V} {g : TG} {tb : TS} {D : Ends} {σ : St} {H : Hp} (C : Pipe → Prop) (hS : SqT K H a xs) (hall : ∀ x ∈ xs, ∃ p, PipeAt K H x p ∧ C p) (Pv : St → Hp → Prop) (h0 : Pv σ H)
    (hs : ∀ x p σ' H', Same H H' → PipeAt K H' x p → C p → Pv σ' H' → g x σ' H' fun σ2 H2 => tb { D with nx := fun σ3 H3 => Same H H3 ∧ Pv σ3 H3, ct := fun σ3 H3 => Same H H3 ∧ Pv σ3 H3, bk := D.nx } σ2 H2)
    (hd : ∀ σ' H', Pv σ' H' → D.nx σ' H') : FLoop (Itt K a) g tb D σ H := by
  refine fl_tup (xs := xs) (fun _ σ' H' => Same H H' ∧ Pv σ' H') ⟨Same.refl _, h0⟩ (fun _ _ _ _ h => SqT.hs h.1 hS) (fun i x σ' H' hx h => ?_) (fun σ' H' h => hd _ _ h.2)
  obtain ⟨p, hp, hc⟩ := hall x (List.mem_of_getElem? hx)
  exact hs x p σ' H' h.1 (PipeAt.hs h.1 hp) hc h.2
/-! ### how large a value gets -/
theorem Step.bd {s : Step} (h : s.ok) {x b : Int} (hb : 0 ≤ b) (hx : -(1000000000 * b) ≤ x ∧ x ≤ 1000000000 * b) :
    -(1000000000 * (120 * b + 1)) ≤ s.val x ∧ s.val x ≤ 1000000000 * (120 * b + 1) := by
  cases s with
  | sc k m c =>
    obtain ⟨⟨k1, k2⟩, ⟨m1, m2⟩, c1, c2⟩ := h
    have a1 : k * x ≤ 120 * (1000000000 * b) := by
      have := Int.mul_le_mul_of_nonneg_left hx.2 (show 0 ≤ k by omega)
      have := Int.mul_le_mul_of_nonneg_right k2 (show 0 ≤ 1000000000 * b by omega)
      omega
    have a2 : -(120 * (1000000000 * b)) ≤ k * x := by
      have := Int.mul_le_mul_of_nonneg_left hx.1 (show 0 ≤ k by omega)
      have := Int.mul_le_mul_of_nonneg_right k2 (show 0 ≤ 1000000000 * b by omega)
      rw [Int.mul_neg] at *
      omega
    exact ediv_big (x := k * x + c) (P := m) (B := 1000000000 * (120 * b + 1)) ⟨by omega, by omega⟩ (by omega)
  | ev m =>
    have := ediv_big (x := x) (P := m) (B := 1000000000 * b) ⟨hx.1, hx.2⟩ (by have := h.1; omega)
    simp only [Step.val]
    split
    · omega
    · split <;> omega
def gn : Nat → Int → Int
  | 0, b => b
  | n + 1, b => gn n (120 * b + 1)
theorem gn_ge : ∀ (n : Nat) {b : Int}, 0 ≤ b → b ≤ gn n b
  | 0, _, _ => Int.le_refl _
  | n + 1, b, h => by
    have := gn_ge n (b := 120 * b + 1) (by omega)
    show b ≤ gn n (120 * b + 1)
    omega
theorem Pipe.bd : ∀ (p : Pipe) (n : Nat) {x b : Int}, (∀ s ∈ p, s.ok) → p.length ≤ n → 0 ≤ b → -(1000000000 * b) ≤ x ∧ x ≤ 1000000000 * b → -(1000000000 * gn n b) ≤ p.val x ∧ p.val x ≤ 1000000000 * gn n b
  | [], n, x, b, _, _, hb, hx => by
    have := gn_ge n hb
    show -(1000000000 * gn n b) ≤ x ∧ x ≤ 1000000000 * gn n b
    omega
  | s :: p, 0, _, _, _, hl, _, _ => by simp at hl
  | s :: p, n + 1, x, b, ho, hl, hb, hx => by
    have h1 := Step.bd (ho s List.mem_cons_self) hb hx
    exact Pipe.bd p n (x := s.val x) (b := 120 * b + 1) (fun t ht => ho t (List.mem_cons_of_mem _ ht)) (by simpa using hl) (by omega) h1
theorem val0_bd {p : Pipe} (ho : ∀ s ∈ p, s.ok) (hl : p.length ≤ 4) {P : Int} (h1 : 0 < P) (h2 : P ≤ 120) : -300000000000000000 ≤ P * p.val 0 ∧ P * p.val 0 ≤ 300000000000000000 := by
  have := Pipe.bd p 4 (x := 0) (b := 0) ho hl (by omega) (by omega)
  rw [show gn 4 0 = 1742521 from rfl] at this
  have a1 := Int.mul_le_mul_of_nonneg_left this.1 (show 0 ≤ P by omega)
  have a2 := Int.mul_le_mul_of_nonneg_left this.2 (show 0 ≤ P by omega)
  omega
end My

/-! ### t[::-1] of a tuple -/
namespace My
open PySem L2 HT PyProof.Rows
section
variable {prog : Program} {w : World} {A : Around} {E : Value → Shared → Prop} {s : Shared}
theorem sliceApplied_rev {sl : Addr} {vl vu vs : Value} {n : Nat} {Q : Int × Int × Nat → Shared → Prop} (hs : s.heap.IsSliceOf sl vl vu vs) (pl : IsPart vl none) (pu : IsPart vu none) (ps : IsPart vs (some (-1)))
    (h : Q ((n : Int) - 1, -1, n) s) : wpAny (model prog w) A (Builtin.Slice.sliceApplied (.ref sl) (pure (n : Int))) Q E s := by
  obtain ⟨os, hos, hcs, hds⟩ := id hs
  unfold Builtin.Slice.sliceApplied Builtin.Slice.sliceFields
  refine wpAny_bind (wpAny_bind (wpAny_field hos hds (x := vl) rfl (wpAny_bind (wpAny_field hos hds (x := vu) rfl (wpAny_bind (wpAny_field hos hds (x := vs) rfl (wpAny_pure ?_)))))))
  refine wpAny_bind (slicePart_ ps ?_)
  show wpAny _ _ (if ((-1 : Int) == 0) = true then _ else _) _ _ s
  rw [if_neg (by decide)]
  refine wpAny_bind (slicePart_ pl (wpAny_bind (slicePart_ pu (wpAny_bind (wpAny_pure ?_)))))
  show wpAny _ _ (match Builtin.Slice.sliceAdjust none none (-1) (n : Int) with | (lo, hi) => pure (lo, (-1 : Int), Builtin.Slice.slicePlaces lo hi (-1))) _ _ s
  have e1 : Builtin.Slice.sliceAdjust none none (-1) (n : Int) = ((n : Int) - 1, -1) := by
    unfold Builtin.Slice.sliceAdjust
    simp
  rw [e1]
  show wpAny _ _ (pure ((n : Int) - 1, (-1 : Int), Builtin.Slice.slicePlaces ((n : Int) - 1) (-1) (-1))) _ _ s
  have e2 : Builtin.Slice.slicePlaces ((n : Int) - 1) (-1) (-1) = n := by
    unfold Builtin.Slice.slicePlaces
    simp
    try omega
  rw [e2]
  exact wpAny_pure h
theorem fm_congr {f g : Nat → Option Value} : ∀ {l : List Nat}, (∀ m ∈ l, f m = g m) → l.filterMap f = l.filterMap g
  | [], _ => rfl
  | m :: l, h => by rw [List.filterMap_cons, List.filterMap_cons, h m List.mem_cons_self, fm_congr fun x hx => h x (List.mem_cons_of_mem _ hx)]
theorem fm_all : ∀ ys : List Value, (List.range ys.length).filterMap (fun m => ys[m]?) = ys
  | [] => rfl
  | y :: ys => by
    rw [List.length_cons, List.range_succ_eq_map, List.filterMap_cons]
    simp only [List.getElem?_cons_zero]
    rw [List.filterMap_map]
    congr 1
    exact fm_all ys
theorem pick_rev (xs : Array Value) : ((List.range xs.size).filterMap fun (m : Nat) => xs[(((xs.size : Int) - 1) + (m : Int) * (-1)).toNat]?).toArray = xs.toList.reverse.toArray := by
  congr 1
  have e : (List.range xs.size).filterMap (fun (m : Nat) => xs[(((xs.size : Int) - 1) + (m : Int) * (-1)).toNat]?) = (List.range xs.size).filterMap (fun m => xs.toList.reverse[m]?) := by
    apply fm_congr
    intro m hm
    have hm := List.mem_range.mp hm
    rw [List.getElem?_reverse (by simpa using hm)]
    rw [show (((xs.size : Int) - 1) + (m : Int) * (-1)).toNat = xs.toList.length - 1 - m by rw [Array.length_toList]; omega]
    simp
  rw [e]
  have := fm_all xs.toList.reverse
  rwa [List.length_reverse, Array.length_toList] at this
theorem getItem_tuple_rev {t sl : Addr} {items : Array Value} {vl vu vs : Value} {Q : Value → Shared → Prop} (ht : IsTup s.heap t items) (hs : s.heap.IsSliceOf sl vl vu vs) (pl : IsPart vl none) (pu : IsPart vu none) (ps : IsPart vs (some (-1)))
    (h : Q (.ref s.heap.objs.size) { s with heap := s.heap.push { cls := .type "tuple", data := .seq items.toList.reverse.toArray } })
    (hsz : items.size ≤ sizeLine) : wpAny (model prog w) A (getItem (.ref t) (.ref sl)) Q E s := by
  have htake : sizeOk (.seq items.toList.reverse.toArray) := by
    show items.toList.reverse.toArray.size ≤ sizeLine
    rw [List.size_toArray, List.length_reverse, Array.length_toList]
    omega
  obtain ⟨os, hos, hcs, hds⟩ := id hs
  have hTs : s.TypeIs (.ref sl) "slice" := ⟨os, hos, hcs⟩
  unfold getItem
  try with_reducible refine wpAny_holding ?_
  first | refine wpAny_bind (wpAny_pure ?_) | skip
  refine wpAny_bind (wpAny_sequenceKey ht.typeIs (by decide) ?_)
  refine wpAny_bind (wpAny_callSpecial?_slot (name := Str.ofString "__getitem__") ht.typeIs PyProof.Rows.slot_tuple_getitem
    (wpAny_call_entry PyProof.Rows.slot_tuple_getitem ht.typeIs entry_tuple_getitem ?_ (args_tuple_getitem _ _)))
  show wpAny _ _ (Builtin.Tuple.tupleItemsOf (.ref t) >>= _) _ _ s
  refine wpAny_bind (tupleItemsOf_ ht ?_)
  refine wpAny_bind (wpAny_typeOf hTs ?_)
  rw [if_pos (by decide)]
  refine wpAny_bind (sliceApplied_rev hs pl pu ps ?_)
  have hno : ¬ ((((items.size : Int) - 1) == 0 && (-1 : Int) == 1 && items.size == items.size) = true) := by
    intro q
    rw [Bool.and_eq_true, Bool.and_eq_true] at q
    exact absurd (eq_of_beq q.1.2) (by decide)
  show wpAny _ _ (if (((items.size : Int) - 1) == 0 && (-1 : Int) == 1 && items.size == items.size) = true then _ else _) _ _ s
  rw [if_neg hno, pick_rev]
  first
    | exact wpAny_bind (m := Builtin.Tuple.tupleExact _) (wpAny_newObj_type (wpAny_pure ⟨_, rfl, wpAny_pure h⟩) htake)
    | exact wpAny_bind (m := Builtin.Tuple.tupleExact _) (wpAny_newObj_type (wpAny_bind (wpAny_pure (wpAny_pure ⟨_, rfl, wpAny_pure h⟩))) htake)
    | exact wpAny_bind (wpAny_bind (m := Builtin.Tuple.tupleExact _) (wpAny_newObj_type (wpAny_pure (wpAny_pure ⟨_, rfl, wpAny_pure h⟩)) htake))
    | exact wpAny_bind (wpAny_bind (m := Builtin.Tuple.tupleExact _) (wpAny_newObj_type (wpAny_pure ⟨_, rfl, wpAny_pure h⟩) htake))
end
section
variable {X : Cx} (K : PySem.W.Frag)
def tRevT (K : PySem.W.Frag) (te : TE) : TE := fun σ H Q => te σ H fun x H1 => ∃ a xs, x = .ref a ∧ SqT K H1 a xs ∧ ∀ p, H1 p = none → Q (.ref p) (upd H1 p (.tup xs.reverse))
theorem kpe_revT {e : Expr} {te : TE} {k : Nat} {p1 p2 p3 pos : Pos} (he : PE X e te) (h : X.K = K := by rfl) : PE X (.Subscript e (.Slice none none (some (.UnaryOp .USub (.Constant (.int 1) k p1) p2)) p3) pos) (tRevT K te) := by
  subst h
  refine ⟨fun pins s σ H Q I h => ?_⟩
  refine Subscript_ (thn (he.run pins s σ H _ I h) fun v s1 ⟨x, H1, I1, r1, q1⟩ => ?_)
  obtain ⟨a, xs, ex, hx, q⟩ := q1
  subst ex
  cases r1
  have hst : PO X (some (.UnaryOp .USub (.Constant (.int 1) k p1) p2)) (tPart (tUn (rU fun i => .int (-i)) (tC (.int 1)))) := po_some (pe_un un_neg pe_int)
  refine wpAny_Slice (thn (po_none.run pins s1 σ H1 (fun o H2 => o = none ∧ H2 = H1) I1 ⟨rfl, rfl⟩) fun vl s2 ⟨l, H2, I2, pl, el, e2⟩ => ?_)
  subst el e2
  refine thn (po_none.run pins s2 σ H2 (fun o H3 => o = none ∧ H3 = H2) I2 ⟨rfl, rfl⟩) fun vu s3 ⟨u, H3, I3, pu, eu, e3⟩ => ?_
  subst eu e3
  refine thn (hst.run pins s3 σ H3 (fun o H4 => o = some (-1) ∧ H4 = H3) I3 ⟨1, rfl, -1, rfl, rfl, rfl⟩) fun vs s4 ⟨o, H4, I4, ps, eo, e4⟩ => ?_
  subst eo e4
  have I5 : Inv X pins σ H4 { s4 with heap := s4.heap.push { cls := .type "slice", data := .fields #[vl, vu, vs] } } := I4.kept (t' := s4.toks) fun b ob q => Heap.get?_push_of_some _ q
  obtain ⟨its, r, ht, hz⟩ := I5.tuple hx
  have hlen := r.length
  show wpAny (model X.prog X.w) X.A (subscriptTail e (.Slice none none (some (.UnaryOp .USub (.Constant (.int 1) k p1) p2)) p3) (.ref a) (.ref s4.heap.objs.size)) (EP X pins σ Q) X.xe { s4 with heap := s4.heap.push { cls := .type "slice", data := .fields #[vl, vu, vs] } }
  refine tail_any (ops := [.ref a, .ref s4.heap.objs.size]) ht.typeIs (PyProof.Rows.slot_tuple_getitem.lookup) ?_ (by with_unfolding_all rfl)
  refine getItem_tuple_rev ht (Heap.IsSliceOf.new _ vl vu vs) pl pu ps ?_ (by rw [List.size_toArray]; omega)
  refine ⟨.ref _, _, I5.laid (t' := s4.toks) (o := .tup xs.reverse) (fun b ob q => Heap.get?_push_of_some _ q) (Nat.le_refl _) ?_, rfl, q _ (I5.hok.fresh (Nat.le_refl _))⟩
  exact ⟨by rw [List.length_reverse]; exact hz, _, r.reverse, IsTup.new _ _⟩
end
section
variable {K : PySem.W.Frag} {H : Hp} {Q : VK} {σ : L2.St} {te : TE}
theorem Paired.rev {α β : Type} {F : α → β → Prop} : ∀ {xs : List α} {ys : List β}, Paired F xs ys → Paired F xs.reverse ys.reverse
  | _, _, .nil => .nil
  | _, _, .cons r t => by rw [List.reverse_cons, List.reverse_cons]; exact Paired.snoc (Paired.rev t) r
def nRevT (K : PySem.W.Frag) (x : V) (H1 : Hp) (Q : VK) : Prop := ∃ a xs, x = .ref a ∧ SqT K H1 a xs ∧ ∀ p, H1 p = none → Q (.ref p) (upd H1 p (.tup xs.reverse))
theorem r_revT (h : te σ H fun x H1 => nRevT K x H1 Q) : tRevT K te σ H Q := h
theorem r_revP {x : V} {p : Pipe} (h : PipeAt K H x p) (q : ∀ c H', Same H H' → PipeAt K H' (.ref c) p.reverse → Q (.ref c) H') : nRevT K x H Q := by
  obtain ⟨a, xs, rfl, hS, hx⟩ := h
  exact ⟨a, xs, rfl, hS, fun c hc => q c _ (Same.up (Same.refl _) hc) ⟨c, _, rfl, SqT.new, My.Paired.rev (Paired.mapP hx fun _ _ z => StepAt.hu hc z)⟩⟩
end
end My

/-! ### the least argument whose value is at least y -/
namespace My
open PySem L2
def Step.first : Step → Int → Int
  | .sc k m c, y => (m * y + k - 1 - c) / k
  | .ev m, y => if m % 2 = 1 then m * y - m / 2 else m * y - m / 2 + y % 2
def Pipe.back (r : Pipe) (y : Int) : Int := r.foldl (fun y s => s.first y) y
def Pipe.first (p : Pipe) (y : Int) : Int := Pipe.back p.reverse y
def Pipe.last (p : Pipe) (y : Int) : Int := p.first (y + 1) - 1
theorem Pipe.back_take {r : Pipe} {i : Nat} {s : Step} {y : Int} (h : r[i]? = some s) : Pipe.back (r.take (i + 1)) y = s.first (Pipe.back (r.take i) y) := by
  unfold Pipe.back
  rw [List.take_add_one, h, List.foldl_append]; rfl
theorem Step.gal {s : Step} (h : s.pos) {x y : Int} : y ≤ s.val x ↔ s.first y ≤ x := by
  cases s with
  | sc k m c =>
    obtain ⟨⟨k1, k2⟩, m1, m2⟩ := h
    show y ≤ (k * x + c) / m ↔ (m * y + k - 1 - c) / k ≤ x
    have e : ((m * y + k - 1 - c) / k ≤ x) ↔ (m * y + k - 1 - c) < (x + 1) * k := by rw [← Int.lt_add_one_iff, Int.ediv_lt_iff_lt_mul (show 0 < k by omega)]
    rw [e, Int.le_ediv_iff_mul_le (show 0 < m by omega), Int.add_mul, Int.mul_comm y m, Int.mul_comm x k]
    omega
  | ev m =>
    obtain ⟨m1, m2⟩ := h
    have e := Int.mul_ediv_add_emod x m
    have r0 := Int.emod_nonneg x (show m ≠ 0 by omega)
    have r1 := Int.emod_lt_of_pos x (show 0 < m by omega)
    obtain ⟨j, hj⟩ : ∃ j, y = x / m + j := ⟨y - x / m, by omega⟩
    have hy : m * y = m * (x / m) + m * j := by rw [hj, Int.mul_add]
    have f1 : Step.val (.ev m) x = if 2 * (x % m) = m then x / m + x / m % 2 else x / m + (if m < 2 * (x % m) then 1 else 0) := rfl
    have f2 : Step.first (.ev m) y = if m % 2 = 1 then m * y - m / 2 else m * y - m / 2 + y % 2 := rfl
    rw [f1, f2]
    generalize x / m = q at *
    generalize x % m = r at *
    have jm : j ≤ 0 → m * j ≤ 0 := fun hh => by have := Int.mul_le_mul_of_nonneg_left hh (show 0 ≤ m by omega); omega
    have jM : 2 ≤ j → 2 * m ≤ m * j := fun hh => by have := Int.mul_le_mul_of_nonneg_left hh (show 0 ≤ m by omega); omega
    have j1 : j = 1 → m * j = m := fun hh => by rw [hh, Int.mul_one]
    generalize m * y = my at *
    generalize m * q = mq at *
    generalize m * j = mj at *
    have hodd := Int.emod_two_eq m
    have hyo := Int.emod_two_eq y
    have hqo := Int.emod_two_eq q
    rcases Int.lt_or_le j 1 with h1 | h1
    · have := jm (by omega)
      split <;> (try split) <;> (try split) <;> constructor <;> intro _ <;> omega
    · rcases Int.lt_or_le 1 j with h2 | h2
      · have := jM (by omega)
        split <;> (try split) <;> (try split) <;> constructor <;> intro _ <;> omega
      · have := j1 (by omega)
        split <;> (try split) <;> (try split) <;> constructor <;> intro _ <;> omega
theorem Pipe.first_cons (s : Step) (p : Pipe) (y : Int) : Pipe.first (s :: p) y = s.first (Pipe.first p y) := by
  unfold Pipe.first Pipe.back
  rw [List.reverse_cons, List.foldl_append]; rfl
theorem Pipe.gal : ∀ {p : Pipe}, p.pos → ∀ {x y : Int}, y ≤ p.val x ↔ p.first y ≤ x
  | [], _, _, _ => Iff.rfl
  | s :: p, h, x, y => by
    rw [Pipe.first_cons, ← Step.gal (h s List.mem_cons_self), ← Pipe.gal (p := p) (fun t ht => h t (List.mem_cons_of_mem _ ht))]
    exact Iff.rfl
theorem Pipe.first_mono {p : Pipe} (h : p.pos) {y y' : Int} (hy : y ≤ y') : p.first y ≤ p.first y' := by
  have h1 : y' ≤ p.val (p.first y') := (Pipe.gal h).mpr (Int.le_refl _)
  exact (Pipe.gal h).mp (by omega)
def ivD (p : Pipe) (y : Int) : PyData := if p.first y ≤ p.last y then .tuple [.int (p.first y), .int (p.last y)] else .none
theorem shaped_ivD (p : Pipe) (y : Int) : SeqAt.shaped (ivD p y) = true := by
  unfold ivD
  split
  · unfold SeqAt.shaped
    simp [PyData.canLay0, PyData.canLayAll0, PyData.depth, PyData.depthAll]
  · rfl
theorem one_le_pow120 : ∀ n : Nat, (1 : Int) ≤ 120 ^ n
  | 0 => by simp
  | n + 1 => by have := one_le_pow120 n; rw [Int.pow_succ]; omega
theorem Pipe.rises_le : ∀ {p : Pipe} (n : Nat), p.pos → p.length ≤ n → p.rises ≤ 120 ^ n
  | [], n, _, _ => by
    have := one_le_pow120 n
    simpa [Pipe.rises] using this
  | s :: p, 0, _, hl => by simp at hl
  | s :: p, n + 1, h, hl => by
    rw [Pipe.rises_cons, Int.pow_succ, Int.mul_comm]
    have h1 := Step.rise_pos (h s List.mem_cons_self)
    have h2 := Pipe.rises_le (p := p) n (fun t ht => h t (List.mem_cons_of_mem _ ht)) (by simpa using hl)
    have h3 := Pipe.rises_pos (p := p) (fun t ht => h t (List.mem_cons_of_mem _ ht))
    exact Int.mul_le_mul h2 h1.2 (by omega) (by omega)
theorem Least.rise_le {p : Pipe} (h : p.pos) {P R : Int} (hl : Least p.val P R) (h6 : p.length ≤ 6) : R ≤ 2985984000000 := by
  have h1 := (hl.dvd (Pipe.qp h)).2
  have h2 := (hl.dvd (Pipe.qp h)).1
  have h3 := Pipe.rises_le 6 h h6
  have h4 := (hl.bounds h).2
  have h5 := Pipe.rises_pos h
  have h6 : 1 ≤ p.prod / P := by
    rcases Int.lt_or_le 0 (p.prod / P) with h | h
    · omega
    · exfalso
      have := Int.mul_le_mul_of_nonneg_left h (show 0 ≤ R by omega)
      omega
  have := Int.mul_le_mul_of_nonneg_left h6 (show 0 ≤ R by omega)
  rw [show (120 : Int) ^ 6 = 2985984000000 from rfl] at h3
  omega
theorem first_shift {p : Pipe} (h : p.pos) {P R : Int} (hq : QP p.val P R) (y t : Int) : p.first (y + t * R) = p.first y + t * P := by
  have hm := hq.mul t
  apply Int.le_antisymm
  · apply (Pipe.gal h).mp
    rw [hm (p.first y)]
    have : y ≤ p.val (p.first y) := (Pipe.gal h).mpr (Int.le_refl _)
    omega
  · have e : p.first (y + t * R) = (p.first (y + t * R) - t * P) + t * P := by omega
    have h1 : y + t * R ≤ p.val (p.first (y + t * R)) := (Pipe.gal h).mpr (Int.le_refl _)
    rw [e, hm] at h1
    have := (Pipe.gal h (y := y) (x := p.first (y + t * R) - t * P)).mp (by omega)
    omega
theorem iv_non {K : PySem.W.Frag} {H : Hp} {v : V} {p : Pipe} {y : Int} (h : Dp K H v (ivD p y)) : v = .non ↔ p.last y < p.first y := by
  unfold ivD at h
  constructor
  · intro e
    rw [e] at h
    rcases Int.lt_or_le (p.last y) (p.first y) with h1 | h1
    · exact h1
    · rw [if_pos h1] at h; cases h
  · intro e
    rw [if_neg (by omega)] at h
    exact dp_none h
theorem r_pickI {K : PySem.W.Frag} {H : Hp} {Q : VK} {p : Addr} {a b r : Int} (h : SqL K H p [.int a, .int b]) (h0 : 0 ≤ r) (h1 : r < 2) (q : ∀ z, z = a ∨ z = b → Q (.int z) H) : rIxL K (.ref p) (.int r) H Q := by
  rcases (show r = 0 ∨ r = 1 by omega) with rfl | rfl
  · exact r_ixL (i := 0) h rfl (q a (.inl rfl))
  · exact r_ixL (i := 1) h rfl (q b (.inr rfl))
end My

/-! ### the order of a search, the first hit in it -/
namespace My
open PySem L2
def ordL : Nat → List Int
  | 0 => [0]
  | i + 1 => ordL i ++ [0 - (1 + (i : Int)), 1 + (i : Int)]
theorem ordL_len : ∀ n : Nat, (ordL n).length = 2 * n + 1
  | 0 => rfl
  | n + 1 => by simp [ordL, ordL_len n]; omega
theorem ordL_mem : ∀ (n : Nat) (x : Int), -(n : Int) ≤ x → x ≤ n → x ∈ ordL n
  | 0, x, h1, h2 => by have : x = 0 := by omega
                       subst this; exact List.mem_singleton.mpr rfl
  | n + 1, x, h1, h2 => by
    by_cases h : -(n : Int) ≤ x ∧ x ≤ n
    · exact List.mem_append.mpr (.inl (ordL_mem n x h.1 h.2))
    · refine List.mem_append.mpr (.inr ?_)
      simp only [List.mem_cons, List.not_mem_nil, or_false]
      omega
theorem ordL_pre : ∀ {n m : Nat}, n ≤ m → ∃ t, ordL m = ordL n ++ t := by
  intro n m h
  induction m with
  | zero => exact ⟨[], by rw [show n = 0 by omega]; rfl⟩
  | succ m ih =>
    rcases Nat.lt_or_ge m n with h1 | h1
    · exact ⟨[], by rw [show n = m + 1 by omega, List.append_nil]⟩
    · obtain ⟨t, ht⟩ := ih h1
      exact ⟨t ++ [0 - (1 + (m : Int)), 1 + (m : Int)], by rw [← List.append_assoc, ← ht]; rfl⟩
def hitL (f : Int → Int) (xs : List Int) : Option Int := xs.find? fun x => decide (f x = f (x + 1))
theorem hit_take {f : Int → Int} {xs : List Int} {i : Nat} {x : Int} (h : xs[i]? = some x) (hn : hitL f (xs.take i) = none) : hitL f (xs.take (i + 1)) = if f x = f (x + 1) then some x else none := by
  unfold hitL at *
  rw [List.take_add_one, h, List.find?_append, hn]
  by_cases hx : f x = f (x + 1)
  · simp [hx]
  · simp [hx]
theorem hit_take_some {f : Int → Int} {xs : List Int} {i : Nat} {x z : Int} (h : xs[i]? = some x) (hn : hitL f (xs.take i) = some z) : hitL f (xs.take (i + 1)) = some z := by
  unfold hitL at *
  rw [List.take_add_one, h, List.find?_append, hn]
  rfl
theorem hit_at {f : Int → Int} {xs : List Int} {i : Nat} {x : Int} (h : xs[i]? = some x) (hn : hitL f (xs.take i) = none) (hx : f x = f (x + 1)) : hitL f xs = some x := by
  have h1 := hit_take h hn
  rw [if_pos hx] at h1
  have : xs = xs.take (i + 1) ++ xs.drop (i + 1) := (List.take_append_drop _ _).symm
  unfold hitL at *
  rw [this, List.find?_append, h1]; rfl
theorem hit_eq {f : Int → Int} {P R : Int} {n m : Nat} (hq : QP f P R) (hP : 0 < P) (hn : (n : Int) = P) (h : n ≤ m) : hitL f (ordL m) = hitL f (ordL n) := by
  obtain ⟨t, ht⟩ := ordL_pre h
  rw [ht]
  unfold hitL
  rw [List.find?_append]
  cases hh : (ordL n).find? fun x => decide (f x = f (x + 1)) with
  | some z => rfl
  | none =>
    rw [Option.none_or, List.find?_eq_none]
    intro x _
    rw [List.find?_eq_none] at hh
    have h0 := Int.emod_nonneg x (show P ≠ 0 by omega)
    have h1 := Int.emod_lt_of_pos x hP
    have := hh (x % P) (ordL_mem n _ (by omega) (by omega))
    simp only [decide_eq_true_eq] at this ⊢
    intro hx
    apply this
    have e1 := hq.mul (x / P) (x % P)
    have e2 := hq.mul (x / P) (x % P + 1)
    rw [Int.add_right_comm, Int.mul_comm (x / P) P, Int.emod_add_mul_ediv] at e2
    rw [Int.mul_comm (x / P) P, Int.emod_add_mul_ediv] at e1
    omega
def optV : Option Int → V
  | some x => .int x
  | none => .non
def optD : Option Int → PyData
  | some x => .int x
  | none => .none
theorem optV_dp {K : PySem.W.Frag} {H : Hp} (o : Option Int) : Dp K H (optV o) (optD o) := by
  cases o with
  | none => exact .non
  | some x => exact .int x
theorem shaped_optD (o : Option Int) : SeqAt.shaped (optD o) = true := by
  cases o <;> rfl
theorem r_pickI3 {K : PySem.W.Frag} {H : Hp} {Q : VK} {p : Addr} {a b c r : Int} (h : SqL K H p [.int a, .int b, .int c]) (h0 : 0 ≤ r) (h1 : r < 3) (q : ∀ z, Q (.int z) H) : rIxL K (.ref p) (.int r) H Q := by
  rcases (show r = 0 ∨ r = 1 ∨ r = 2 by omega) with rfl | rfl | rfl
  · exact r_ixL (i := 0) h rfl (q a)
  · exact r_ixL (i := 1) h rfl (q b)
  · exact r_ixL (i := 2) h rfl (q c)
theorem diff_at {f : Int → Int} {P R : Int} (hq : QP f P R) (x : Int) : f (x % P + 1) - f (x % P) = 0 ↔ f x = f (x + 1) := by
  have e1 := hq.mul (x / P) (x % P)
  have e2 := hq.mul (x / P) (x % P + 1)
  rw [Int.add_right_comm, Int.mul_comm (x / P) P, Int.emod_add_mul_ediv] at e2
  rw [Int.mul_comm (x / P) P, Int.emod_add_mul_ediv] at e1
  omega
theorem optV_non {o : Option Int} (h : optV o = .non) : o = none := by
  cases o with
  | none => rfl
  | some x => cases h
theorem optV_some {o : Option Int} (h : ¬ optV o = .non) : ∃ x, o = some x := by
  cases o with
  | none => exact absurd rfl h
  | some x => exact ⟨x, rfl⟩
end My

/-! ### counting by residues -/
namespace My
open PySem L2
def resC (P r s e : Int) : Int := (e - r) / P - (s - 1 - r) / P
theorem ediv_pred {u P : Int} (hP : 0 < P) : u / P - (u - 1) / P = if u % P = 0 then 1 else 0 := by
  have e := Int.mul_ediv_add_emod u P
  have t0 := Int.emod_nonneg u (show P ≠ 0 by omega)
  have t1 := Int.emod_lt_of_pos u hP
  by_cases h : u % P = 0
  · rw [if_pos h]
    have := ((Int.ediv_emod_unique (a := u - 1) (b := P) (r := P - 1) (q := u / P - 1) hP).mpr ⟨by rw [Int.mul_sub, Int.mul_one]; omega, by omega, by omega⟩).1
    omega
  · rw [if_neg h]
    have := ((Int.ediv_emod_unique (a := u - 1) (b := P) (r := u % P - 1) (q := u / P) hP).mpr ⟨by omega, by omega, by omega⟩).1
    omega
theorem emod_sub_iff {x r P : Int} (hP : 0 < P) (h0 : 0 ≤ r) (h1 : r < P) : (x - r) % P = 0 ↔ x % P = r := by
  constructor
  · intro h
    have e := Int.mul_ediv_add_emod (x - r) P
    rw [h] at e
    have : x = r + P * ((x - r) / P) := by omega
    rw [this, Int.add_mul_emod_self_left, Int.emod_eq_of_lt h0 h1]
  · intro h
    have e := Int.mul_ediv_add_emod x P
    have : x - r = P * (x / P) := by omega
    rw [this, Int.mul_emod_right]
theorem resC_succ {P r s e : Int} (hP : 0 < P) (h0 : 0 ≤ r) (h1 : r < P) : resC P r s (e + 1) = resC P r s e + if (e + 1) % P = r then 1 else 0 := by
  unfold resC
  have h := ediv_pred (u := e + 1 - r) hP
  rw [show e + 1 - r - 1 = e - r by omega] at h
  have hi := emod_sub_iff (x := e + 1) hP h0 h1
  by_cases hc : (e + 1) % P = r
  · rw [if_pos hc]; rw [if_pos (hi.mpr hc)] at h; omega
  · rw [if_neg hc]; rw [if_neg (fun q => hc (hi.mp q))] at h; omega
def sumR : Nat → (Int → Int) → Int
  | 0, _ => 0
  | i + 1, g => sumR i g + g i
theorem sumR_congr {g h : Int → Int} : ∀ {n : Nat}, (∀ i : Nat, i < n → g i = h i) → sumR n g = sumR n h
  | 0, _ => rfl
  | n + 1, e => by rw [sumR, sumR, sumR_congr fun i hi => e i (by omega), e n (by omega)]
theorem sumR_add (g h : Int → Int) : ∀ n : Nat, sumR n (fun r => g r + h r) = sumR n g + sumR n h
  | 0 => rfl
  | n + 1 => by rw [sumR, sumR, sumR, sumR_add g h n]; omega
theorem sumR_zero : ∀ n : Nat, sumR n (fun _ => 0) = 0
  | 0 => rfl
  | n + 1 => by rw [sumR, sumR_zero n]; rfl
theorem sumR_one (z : Int) (c : Int) : ∀ n : Nat, 0 ≤ z → sumR n (fun r => if z = r then c else 0) = if z < n then c else 0
  | 0, h => by rw [sumR, if_neg (by omega)]
  | n + 1, h => by
    rw [sumR, sumR_one z c n h]
    by_cases h1 : z < n
    · rw [if_pos h1, if_neg (by omega), if_pos (by omega)]; omega
    · rw [if_neg h1]
      by_cases h2 : z = n
      · rw [if_pos h2, if_pos (by omega)]; omega
      · rw [if_neg h2, if_neg (by omega)]; rfl
def cntW (good : Int → Bool) (s : Int) : Nat → Int
  | 0 => 0
  | n + 1 => cntW good s n + if good (s + n) = true then 1 else 0
theorem cnt_res {good : Int → Bool} {P : Int} (hP : 0 < P) (hg : ∀ x, good (x % P) = good x) (s : Int) : ∀ n : Nat, sumR P.toNat (fun r => if good r = true then resC P r s (s + n - 1) else 0) = cntW good s n
  | 0 => by
    have e : sumR P.toNat (fun r => if good r = true then resC P r s (s + ((0 : Nat) : Int) - 1) else 0) = sumR P.toNat (fun _ => 0) := by
      apply sumR_congr
      intro i hi
      split
      · unfold resC
        rw [show s + ((0 : Nat) : Int) - 1 - (i : Int) = s - 1 - i by omega]; omega
      · rfl
    rw [e, sumR_zero, cntW]
  | n + 1 => by
    rw [cntW, ← cnt_res hP hg s n]
    have z0 := Int.emod_nonneg (s + n) (show P ≠ 0 by omega)
    have z1 := Int.emod_lt_of_pos (s + n) hP
    have e2 : ∀ c : Int, c = sumR P.toNat (fun r => if (s + n) % P = r then c else 0) := by
      intro c
      rw [sumR_one _ _ _ z0, if_pos (by omega)]
    rw [e2 (if good (s + n) = true then (1 : Int) else 0), ← sumR_add]
    apply sumR_congr
    intro i hi
    have hr := resC_succ (P := P) (r := i) (s := s) (e := s + n - 1) hP (by omega) (by omega)
    rw [show s + (n : Int) - 1 + 1 = s + n by omega] at hr
    rw [show s + ((n + 1 : Nat) : Int) - 1 = s + n by omega, hr]
    by_cases h1 : (s + n) % P = (i : Int)
    · rw [if_pos h1, if_pos h1, ← h1, hg (s + n)]
      by_cases h2 : good (s + n) = true
      · rw [if_pos h2, if_pos h2, if_pos h2]
      · rw [if_neg h2, if_neg h2, if_neg h2]; rfl
    · rw [if_neg h1, if_neg h1]
      split <;> omega
theorem cntW_add (good : Int → Bool) (s : Int) (n : Nat) : ∀ m : Nat, cntW good s (n + m) = cntW good s n + cntW good (s + n) m
  | 0 => by rw [Nat.add_zero, cntW]; omega
  | m + 1 => by
    rw [← Nat.add_assoc, cntW, cntW, cntW_add good s n m, show s + ((n + m : Nat) : Int) = s + n + m by omega]; omega
theorem cntW_congr {good good' : Int → Bool} {s : Int} : ∀ {n : Nat}, (∀ i : Nat, i < n → good (s + i) = good' (s + i)) → cntW good s n = cntW good' s n
  | 0, _ => rfl
  | n + 1, e => by rw [cntW, cntW, cntW_congr fun i hi => e i (by omega), e n (by omega)]
theorem cntW_zero {good : Int → Bool} {s : Int} : ∀ {n : Nat}, (∀ i : Nat, i < n → good (s + i) = false) → cntW good s n = 0
  | 0, _ => rfl
  | n + 1, e => by rw [cntW, cntW_zero fun i hi => e i (by omega), e n (by omega)]; rfl
theorem cntW_nn (good : Int → Bool) (s : Int) : ∀ n : Nat, 0 ≤ cntW good s n ∧ cntW good s n ≤ n
  | 0 => ⟨by simp [cntW], by simp [cntW]⟩
  | n + 1 => by have := cntW_nn good s n; rw [cntW]; split <;> omega
theorem cntW_shift (good good' : Int → Bool) (s d : Int) (h : ∀ x, good' (x + d) = good x) : ∀ n : Nat, cntW good' (s + d) n = cntW good s n
  | 0 => rfl
  | n + 1 => by rw [cntW, cntW, cntW_shift good good' s d h n, show s + d + (n : Int) = s + n + d by omega, h]
def jmp (p : Pipe) (x : Int) : Bool := decide (p.val x < p.val (x + 1))
def runs (p : Pipe) (x : Int) : Bool := decide (p.val (x - 1) < p.val x) && decide (p.val x = p.val (x + 1))
def att (p : Pipe) (y : Int) : Bool := decide (p.first y < p.first (y + 1))
def att2 (p : Pipe) (y : Int) : Bool := decide (p.first y + 1 < p.first (y + 1))
theorem in_block {p : Pipe} (h : p.pos) {y x : Int} (h1 : p.first y ≤ x) (h2 : x < p.first (y + 1)) : p.val x = y := by
  have a := (Pipe.gal h).mpr h1
  have b : ¬ (y + 1 ≤ p.val x) := fun q => by have := (Pipe.gal h).mp q; omega
  omega
theorem block_sum {p : Pipe} (hp : p.pos) (g at' : Int → Bool) (d : Int) (h : ∀ y, cntW g (p.first y + d) (p.first (y + 1) - p.first y).toNat = if at' y = true then 1 else 0) (lo : Int) :
    ∀ n : Nat, cntW g (p.first lo + d) (p.first (lo + n) - p.first lo).toNat = cntW at' lo n
  | 0 => by rw [show (p.first (lo + ((0 : Nat) : Int)) - p.first lo).toNat = 0 by rw [show lo + ((0 : Nat) : Int) = lo by omega]; omega]; rfl
  | n + 1 => by
    have m1 := Pipe.first_mono hp (show lo ≤ lo + n by omega)
    have m2 := Pipe.first_mono hp (show lo + n ≤ lo + n + 1 by omega)
    have e : (p.first (lo + ((n + 1 : Nat) : Int)) - p.first lo).toNat = (p.first (lo + n) - p.first lo).toNat + (p.first (lo + n + 1) - p.first (lo + n)).toNat := by
      rw [show lo + ((n + 1 : Nat) : Int) = lo + n + 1 by omega]; omega
    rw [e, cntW_add, block_sum hp g at' d h lo n, cntW, ← h (lo + n)]
    rw [show p.first lo + d + (((p.first (lo + n) - p.first lo).toNat : Nat) : Int) = p.first (lo + n) + d by omega]
theorem jmp_block {p : Pipe} (hp : p.pos) (y : Int) : cntW (jmp p) (p.first y + -1) (p.first (y + 1) - p.first y).toNat = if att p y = true then 1 else 0 := by
  have m := Pipe.first_mono hp (show y ≤ y + 1 by omega)
  unfold att
  by_cases h : p.first y < p.first (y + 1)
  · rw [if_pos (decide_eq_true h)]
    obtain ⟨k, hk⟩ : ∃ k : Nat, (p.first (y + 1) - p.first y).toNat = 1 + k := ⟨(p.first (y + 1) - p.first y).toNat - 1, by omega⟩
    rw [hk, cntW_add, cntW_zero (n := k)]
    · show (0 : Int) + (if jmp p (p.first y + -1 + ((0 : Nat) : Int)) = true then 1 else 0) + 0 = 1
      have h1 : p.val (p.first y + -1) < y := by
        rcases Int.lt_or_le (p.val (p.first y + -1)) y with q | q
        · exact q
        · have := (Pipe.gal hp).mp q; omega
      have h2 : p.val (p.first y) = y := in_block hp (Int.le_refl _) h
      rw [show p.first y + -1 + ((0 : Nat) : Int) = p.first y + -1 by omega, if_pos]
      · rfl
      · unfold jmp
        rw [show p.first y + -1 + 1 = p.first y by omega, h2]; exact decide_eq_true h1
    · intro i hi
      have h1 := in_block hp (y := y) (x := p.first y + i) (by omega) (by omega)
      have h2 := in_block hp (y := y) (x := p.first y + i + 1) (by omega) (by omega)
      unfold jmp
      rw [show p.first y + -1 + ((1 : Nat) : Int) + (i : Int) = p.first y + i by omega, h1, h2]
      exact decide_eq_false (by omega)
  · rw [if_neg (by simpa using h), show (p.first (y + 1) - p.first y).toNat = 0 by omega]; rfl
theorem runs_block {p : Pipe} (hp : p.pos) (y : Int) : cntW (runs p) (p.first y + 0) (p.first (y + 1) - p.first y).toNat = if att2 p y = true then 1 else 0 := by
  have m := Pipe.first_mono hp (show y ≤ y + 1 by omega)
  have g2 : y + 1 ≤ p.val (p.first (y + 1)) := (Pipe.gal hp).mpr (Int.le_refl _)
  unfold att2
  by_cases h : p.first y < p.first (y + 1)
  · obtain ⟨k, hk⟩ : ∃ k : Nat, (p.first (y + 1) - p.first y).toNat = 1 + k := ⟨(p.first (y + 1) - p.first y).toNat - 1, by omega⟩
    have h1 : p.val (p.first y - 1) < y := by
      rcases Int.lt_or_le (p.val (p.first y - 1)) y with q | q
      · exact q
      · have := (Pipe.gal hp).mp q; omega
    have h2 : p.val (p.first y) = y := in_block hp (Int.le_refl _) h
    rw [hk, cntW_add, cntW_zero (n := k)]
    · show (0 : Int) + (if runs p (p.first y + 0 + ((0 : Nat) : Int)) = true then 1 else 0) + 0 = _
      rw [show p.first y + 0 + ((0 : Nat) : Int) = p.first y by omega]
      unfold runs
      rw [h2, decide_eq_true h1, Bool.true_and]
      by_cases h3 : p.first y + 1 < p.first (y + 1)
      · have h4 := in_block hp (y := y) (x := p.first y + 1) (by omega) h3
        rw [h4, if_pos (decide_eq_true rfl), if_pos (decide_eq_true h3)]; rfl
      · have e : p.first y + 1 = p.first (y + 1) := by omega
        rw [e, if_neg, if_neg]
        · rfl
        · simp
        · simp; omega
    · intro i hi
      have h3 := in_block hp (y := y) (x := p.first y + i) (by omega) (by omega)
      have h4 := in_block hp (y := y) (x := p.first y + i + 1) (by omega) (by omega)
      unfold runs
      rw [show p.first y + 0 + ((1 : Nat) : Int) + (i : Int) = p.first y + i + 1 by omega, show p.first y + (i : Int) + 1 - 1 = p.first y + i by omega, h3, h4, decide_eq_false (by omega)]; rfl
  · rw [if_neg (by simp; omega), show (p.first (y + 1) - p.first y).toNat = 0 by omega]; rfl
/-- how many values of a range are met (rep: met more than once) -/
def cntV (p : Pipe) (rep : Bool) (lo hi : Int) : Int := cntW (if rep = true then att2 p else att p) lo (hi - lo + 1).toNat
def goodV (p : Pipe) (rep : Bool) : Int → Bool := if rep = true then runs p else jmp p
theorem cntV_eq {p : Pipe} (hp : p.pos) (rep : Bool) {lo hi : Int} (h : lo ≤ hi) :
    cntV p rep lo hi = if p.last hi < p.first lo then 0 else (if rep = true then 0 else 1) + cntW (goodV p rep) (p.first lo) (p.last hi - p.first lo).toNat := by
  have m := Pipe.first_mono hp (show lo ≤ hi + 1 by omega)
  have el : p.last hi = p.first (hi + 1) - 1 := rfl
  have en : lo + (((hi - lo + 1).toNat : Nat) : Int) = hi + 1 := by omega
  unfold cntV goodV
  cases rep with
  | false =>
    simp only [Bool.false_eq_true, if_false]
    have b := block_sum hp (jmp p) (att p) (-1) (jmp_block hp) lo (hi - lo + 1).toNat
    rw [en] at b
    rw [← b]
    by_cases hc : p.last hi < p.first lo
    · rw [if_pos hc, show (p.first (hi + 1) - p.first lo).toNat = 0 by omega]; rfl
    · rw [if_neg hc, show (p.first (hi + 1) - p.first lo).toNat = 1 + (p.last hi - p.first lo).toNat by omega, cntW_add]
      have h1 : p.val (p.first lo + -1) < lo := by
        rcases Int.lt_or_le (p.val (p.first lo + -1)) lo with q | q
        · exact q
        · have := (Pipe.gal hp).mp q; omega
      have h2 : lo ≤ p.val (p.first lo) := (Pipe.gal hp).mpr (Int.le_refl _)
      have e1 : cntW (jmp p) (p.first lo + -1) 1 = 1 := by
        show (0 : Int) + (if jmp p (p.first lo + -1 + ((0 : Nat) : Int)) = true then 1 else 0) = 1
        rw [show p.first lo + -1 + ((0 : Nat) : Int) = p.first lo + -1 by omega, if_pos]
        · rfl
        · unfold jmp
          rw [show p.first lo + -1 + 1 = p.first lo by omega]; exact decide_eq_true (by omega)
      rw [e1, show p.first lo + -1 + ((1 : Nat) : Int) = p.first lo by omega]
  | true =>
    simp only [if_true]
    have b := block_sum hp (runs p) (att2 p) 0 (runs_block hp) lo (hi - lo + 1).toNat
    rw [en, Int.add_zero] at b
    rw [← b]
    by_cases hc : p.last hi < p.first lo
    · rw [if_pos hc, show (p.first (hi + 1) - p.first lo).toNat = 0 by omega]; rfl
    · rw [if_neg hc, show (p.first (hi + 1) - p.first lo).toNat = (p.last hi - p.first lo).toNat + 1 by omega, cntW]
      have g2 : hi + 1 ≤ p.val (p.first (hi + 1)) := (Pipe.gal hp).mpr (Int.le_refl _)
      have h3 : p.val (p.last hi) < hi + 1 := by
        rcases Int.lt_or_le (p.val (p.last hi)) (hi + 1) with q | q
        · exact q
        · have := (Pipe.gal hp).mp q; omega
      rw [show p.first lo + (((p.last hi - p.first lo).toNat : Nat) : Int) = p.last hi by omega, if_neg]
      · omega
      · unfold runs
        rw [show p.last hi + 1 = p.first (hi + 1) by omega, decide_eq_false (p := p.val (p.last hi) = p.val (p.first (hi + 1))) (by omega), Bool.and_false]
        simp
theorem goodV_mod {p : Pipe} {P R : Int} (hq : QP p.val P R) (rep : Bool) (x : Int) : goodV p rep (x % P) = goodV p rep x := by
  have e0 := hq.mul (x / P) (x % P - 1)
  have e1 := hq.mul (x / P) (x % P)
  have e2 := hq.mul (x / P) (x % P + 1)
  rw [show x % P - 1 + x / P * P = x % P + x / P * P - 1 by omega, Int.mul_comm (x / P) P, Int.emod_add_mul_ediv] at e0
  rw [Int.add_right_comm, Int.mul_comm (x / P) P, Int.emod_add_mul_ediv] at e2
  rw [Int.mul_comm (x / P) P, Int.emod_add_mul_ediv] at e1
  unfold goodV
  cases rep
  · simp only [Bool.false_eq_true, if_false]
    unfold jmp
    rw [e1, e2]
    exact decide_eq_decide.mpr (by omega)
  · simp only [if_true]
    unfold runs
    rw [e0, e1, e2]
    rw [decide_eq_decide.mpr (show p.val (x % P - 1) < p.val (x % P) ↔ p.val (x % P - 1) + x / P * R < p.val (x % P) + x / P * R by omega), decide_eq_decide.mpr (show p.val (x % P) = p.val (x % P + 1) ↔ p.val (x % P) + x / P * R = p.val (x % P + 1) + x / P * R by omega)]
end My

/-! ### inverse pipelines -/
namespace My
open PySem L2
def Step.inv (last : Bool) : Step → Option Step
  | .sc k m c => some (.sc m k (if last = true then m - 1 - c else k - 1 - c))
  | .ev m => if m % 2 = 0 then none else some (.sc m 1 (if last = true then m - 1 - m / 2 else 1 - 1 - m / 2))
def invL (last : Bool) : List Step → Option Pipe
  | [] => some []
  | s :: r => match s.inv last with
    | none => none
    | some t => match invL last r with
      | none => none
      | some q => some (t :: q)
def Pipe.inv (last : Bool) (p : Pipe) : Option Pipe := invL last p.reverse
theorem invL_snoc (last : Bool) : ∀ (r : List Step) (s : Step), invL last (r ++ [s]) = match invL last r with
    | none => none
    | some q => match s.inv last with
      | none => none
      | some t => some (q ++ [t])
  | [], s => by
    simp only [List.nil_append, invL]
    try (cases s.inv last <;> rfl)
  | a :: r, s => by
    simp only [List.cons_append, invL, invL_snoc last r s]
    cases a.inv last with
    | none => rfl
    | some t =>
      cases invL last r with
      | none => rfl
      | some q => cases s.inv last <;> rfl
theorem invL_take {last : Bool} {r : List Step} {i : Nat} {s : Step} (h : r[i]? = some s) : invL last (r.take (i + 1)) = match invL last (r.take i) with
    | none => none
    | some q => match s.inv last with
      | none => none
      | some t => some (q ++ [t]) := by
  rw [List.take_add_one, h]
  exact invL_snoc last _ s
theorem invL_none {last : Bool} {r : List Step} {i : Nat} {s : Step} (h : r[i]? = some s) (hn : s.inv last = none) : invL last r = none := by
  induction r generalizing i with
  | nil => simp at h
  | cons a r ih =>
    cases i with
    | zero => simp at h; subst h; simp [invL, hn]
    | succ i =>
      have := ih (i := i) (by simpa using h)
      simp only [invL, this]
      cases a.inv last <;> rfl
theorem invL_len {last : Bool} : ∀ {r : List Step} {q : Pipe}, invL last r = some q → q.length = r.length
  | [], q, h => by simp [invL] at h; subst h; rfl
  | s :: r, q, h => by
    simp only [invL] at h
    cases hs : s.inv last with
    | none => rw [hs] at h; cases h
    | some t =>
      rw [hs] at h
      cases hr : invL last r with
      | none => rw [hr] at h; cases h
      | some q' => rw [hr] at h; cases h; simp [invL_len hr]
/-- the value of first_inverse, last_inverse as data -/
def invD (last : Bool) (p : Pipe) : PyData := match Pipe.inv last p with
  | none => .none
  | some q => if isPipeD (pipeD q) = true then pipeD q else .none
theorem shaped_invD (last : Bool) (p : Pipe) : SeqAt.shaped (invD last p) = true := by
  unfold invD
  split
  · rfl
  · split
    · exact shaped_pipe _
    · rfl
theorem Pipe.val_app (q p : Pipe) (x : Int) : Pipe.val (q ++ p) x = p.val (q.val x) := by
  unfold Pipe.val; rw [List.foldl_append]
theorem Pipe.prod_app : ∀ q p : Pipe, Pipe.prod (q ++ p) = q.prod * p.prod
  | [], p => by rw [List.nil_append, Pipe.prod_nil, Int.one_mul]
  | s :: q, p => by rw [List.cons_append, Pipe.prod_cons, Pipe.prod_cons, Pipe.prod_app q p, Int.mul_assoc]
/-- the identity, by a window of one period -/
theorem id_iff {f : Int → Int} {L R : Int} (hL : 0 < L) (hq : QP f L R) : (∀ x, f x = x) ↔ L = R ∧ ∀ x : Nat, x < L.toNat → f x = x := by
  constructor
  · intro h
    refine ⟨?_, fun x _ => h x⟩
    have := hq 0
    rw [h, h] at this; omega
  · rintro ⟨rfl, h⟩ x
    rw [hq.at x]
    have h0 := Int.emod_nonneg x (show L ≠ 0 by omega)
    have h1 := Int.emod_lt_of_pos x hL
    have := h (x % L).toNat (by omega)
    rw [show (((x % L).toNat : Nat) : Int) = x % L by omega] at this
    rw [this, Int.mul_comm, Int.emod_add_mul_ediv]
theorem id_iff2 {f : Int → Int} {L R : Int} {n : Nat} (hL : 0 < L) (hq : QP f L R) (hn : L < n) : (∀ x, f x = x) ↔ ∀ x : Nat, x < n → f x = x := by
  constructor
  · intro h x _
    exact h x
  · intro h
    refine (id_iff hL hq).mpr ⟨?_, fun x hx => h x (by omega)⟩
    have h0 := h 0 (by omega)
    have h1 := h L.toNat (by omega)
    rw [show ((L.toNat : Nat) : Int) = L by omega] at h1
    have := hq 0
    rw [show ((0 : Nat) : Int) = 0 from rfl] at h0
    rw [Int.zero_add] at this
    omega
theorem r_slTail {K : PySem.W.Frag} {H : Hp} {Q : VK} {a : Addr} {x : V} {xs : List V} (h : SqT K H a (x :: xs)) (q : ∀ p H', Same H H' → SqT K H' p xs → Q (.ref p) H') : rSlA K (.ref a) (some 1) none H Q :=
  r_slT h fun p H' s f => q p H' s (by have e := cut_from (x :: xs) 1; rw [show ((1 : Nat) : Int) = 1 from rfl] at e; rw [e] at f; exact f)
end My

/-! ### repr of a truth value, is of truth values; inverse pipelines' values -/
namespace My
open PySem L2
def nRepr : List V → Hp → VK → Prop := fun xs H Q => ∃ b : Bool, xs = [.bl b] ∧ Q (.str (if b = true then "True" else "False")) H
theorem krepr {X : Cx} : CallR X (.builtin "repr") nRepr := by
  intro pins s σ H xs us Q I r h
  obtain ⟨b, rfl, q⟩ := h
  obtain ⟨u, rfl, t⟩ := vals1 r
  cases (show u = Value.bool b from t)
  exact PySem.P.repr_of_bool ⟨.str _, H, I.tok _, ⟨_, rfl⟩, q⟩
section
variable {K : PySem.W.Frag} {H : Hp} {Q : VK}
theorem r_repr {b : Bool} (q : Q (.str (if b = true then "True" else "False")) H) : nRepr [.bl b] H Q := ⟨b, rfl, q⟩
theorem r_isB {a b : Bool} (q : Q (.bl (decide (a = b))) H) : rIsB (.bl a) (.bl b) H Q := ⟨a, b, rfl, rfl, q⟩
theorem r_notB {a b : Bool} (q : Q (.bl (!decide (a = b))) H) : rNotB (.bl a) (.bl b) H Q := ⟨a, b, rfl, rfl, q⟩
end
theorem Step.inv_first {s t : Step} (h : s.inv false = some t) (y : Int) : t.val y = s.first y := by
  cases s with
  | sc k m c =>
    simp only [Step.inv, Option.some.injEq] at h
    subst h
    show (m * y + (if false = true then m - 1 - c else k - 1 - c)) / k = (m * y + k - 1 - c) / k
    congr 1
    simp
    omega
  | ev m =>
    simp only [Step.inv] at h
    split at h
    · cases h
    · rename_i hm
      simp only [Option.some.injEq] at h
      subst h
      show (m * y + (if false = true then m - 1 - m / 2 else 1 - 1 - m / 2)) / 1 = if m % 2 = 1 then m * y - m / 2 else m * y - m / 2 + y % 2
      rw [if_neg (show ¬ (false = true) by decide), if_pos (by omega), Int.ediv_one]
      omega
theorem Step.inv_last {s t : Step} (hp : s.pos) (h : s.inv true = some t) (y : Int) : t.val y = s.first (y + 1) - 1 := by
  cases s with
  | sc k m c =>
    simp only [Step.inv, Option.some.injEq] at h
    subst h
    obtain ⟨⟨k1, _⟩, m1, _⟩ := hp
    show (m * y + (if true = true then m - 1 - c else k - 1 - c)) / k = (m * (y + 1) + k - 1 - c) / k - 1
    rw [if_pos rfl, show m * (y + 1) + k - 1 - c = (m * y + (m - 1 - c)) + k * 1 by rw [Int.mul_add]; omega, ediv_shift _ _ _ (by omega)]
    omega
  | ev m =>
    simp only [Step.inv] at h
    split at h
    · cases h
    · rename_i hm
      simp only [Option.some.injEq] at h
      subst h
      show (m * y + (if true = true then m - 1 - m / 2 else 1 - 1 - m / 2)) / 1 = (if m % 2 = 1 then m * (y + 1) - m / 2 else m * (y + 1) - m / 2 + (y + 1) % 2) - 1
      rw [if_pos rfl, if_pos (by omega), Int.ediv_one, Int.mul_add]
      omega
theorem invL_first : ∀ {r : List Step} {q : Pipe}, invL false r = some q → ∀ y, q.val y = Pipe.back r y
  | [], q, h, y => by simp [invL] at h; subst h; rfl
  | s :: r, q, h, y => by
    simp only [invL] at h
    cases hs : s.inv false with
    | none => rw [hs] at h; cases h
    | some t =>
      rw [hs] at h
      cases hr : invL false r with
      | none => rw [hr] at h; cases h
      | some q' =>
        rw [hr] at h; cases h
        show Pipe.val q' (t.val y) = Pipe.back r (s.first y)
        rw [invL_first hr, Step.inv_first hs]
theorem invL_last : ∀ {r : List Step} {q : Pipe}, (∀ s ∈ r, s.pos) → invL true r = some q → ∀ y, q.val y = Pipe.back r (y + 1) - 1
  | [], q, _, h, y => by simp [invL] at h; subst h; show y = y + 1 - 1; omega
  | s :: r, q, hp, h, y => by
    simp only [invL] at h
    cases hs : s.inv true with
    | none => rw [hs] at h; cases h
    | some t =>
      rw [hs] at h
      cases hr : invL true r with
      | none => rw [hr] at h; cases h
      | some q' =>
        rw [hr] at h; cases h
        show Pipe.val q' (t.val y) = Pipe.back r (s.first (y + 1)) - 1
        rw [invL_last (fun t ht => hp t (List.mem_cons_of_mem _ ht)) hr, Step.inv_last (hp s List.mem_cons_self) hs, Int.sub_add_cancel]
theorem inv_val {p q : Pipe} (hp : p.pos) (l : Bool) (h : Pipe.inv l p = some q) (y : Int) : q.val y = if l = true then p.last y else p.first y := by
  cases l
  · rw [if_neg (by decide)]; exact invL_first h y
  · rw [if_pos rfl]; exact invL_last (fun s hs => hp s (List.mem_reverse.mp hs)) h y
theorem eqv_iff {p : Prop} {b b' : Bool} (h : b = true ↔ p) (h' : b' = true ↔ p) : b = b' := by
  cases b <;> cases b' <;> simp_all
theorem nonE : decide (V.non = V.non) = true := decide_eq_true rfl
theorem refE {a : Addr} : decide (V.ref a = V.non) = false := decide_eq_false (fun h => by cases h)
theorem intE {a : Int} : decide (V.int a = V.non) = false := decide_eq_false (fun h => by cases h)
theorem blE {a : Bool} : decide (V.bl a = V.non) = false := decide_eq_false (fun h => by cases h)
theorem optP {K : PySem.W.Frag} {H : Hp} {v : V} {o : Option Pipe} (h : match o with | none => v = V.non | some q => ∃ c, v = V.ref c ∧ PipeAt K H (.ref c) q) : v = .non ∨ ∃ c p, v = .ref c ∧ PipeAt K H v p := by
  cases o with
  | none => exact .inl h
  | some q =>
    obtain ⟨c, rfl, h⟩ := h
    exact .inr ⟨c, q, rfl, h⟩
theorem fl_opt {K : PySem.W.Frag} {a : Addr} {xs : List V} {g : TG} {tb : TS} {D : Ends} {σ : St} {H : Hp} (hS : SqT K H a xs) (hall : ∀ x ∈ xs, x = .non ∨ ∃ c p, x = .ref c ∧ PipeAt K H x p) (Pv : St → Hp → Prop) (h0 : Pv σ H)
    (hs : ∀ x σ' H', Same H H' → (x = .non ∨ ∃ c p, x = .ref c ∧ PipeAt K H' x p) → Pv σ' H' → g x σ' H' fun σ2 H2 => tb { D with nx := fun σ3 H3 => Same H H3 ∧ Pv σ3 H3, ct := fun σ3 H3 => Same H H3 ∧ Pv σ3 H3, bk := D.nx } σ2 H2)
    (hd : ∀ σ' H', Pv σ' H' → D.nx σ' H') : FLoop (Itt K a) g tb D σ H := by
  refine fl_tup (xs := xs) (fun _ σ' H' => Same H H' ∧ Pv σ' H') ⟨Same.refl _, h0⟩ (fun _ _ _ _ h => SqT.hs h.1 hS) (fun i x σ' H' hx h => ?_) (fun σ' H' h => hd _ _ h.2)
  refine hs x σ' H' h.1 ?_ h.2
  rcases hall x (List.mem_of_getElem? hx) with e | ⟨c, p, e, hp⟩
  · exact .inl e
  · exact .inr ⟨c, p, e, PipeAt.hs h.1 hp⟩
theorem invD_eq {l : Bool} {p q : Pipe} (h : Pipe.inv l p = some q) (ok : q.ok) : invD l p = pipeD q := by
  unfold invD; rw [h]; exact if_pos (isPipeD_pipe.mpr ok)
theorem invD_no {l : Bool} {p q : Pipe} (h : Pipe.inv l p = some q) (ok : ¬ q.ok) : invD l p = .none := by
  unfold invD; rw [h]; exact if_neg (fun z => ok (isPipeD_pipe.mp z))
theorem invD_none {l : Bool} {p : Pipe} (h : Pipe.inv l p = none) : invD l p = .none := by
  unfold invD; rw [h]
end My

/-! ### samples: tuples of pairs of ints -/
namespace My
open PySem L2
abbrev Pt := Int × Int
def PtAt (K : PySem.W.Frag) (H : Hp) (v : V) (z : Pt) : Prop := ∃ a, v = .ref a ∧ SqT K H a [.int z.1, .int z.2]
def SampAt (K : PySem.W.Frag) (H : Hp) (v : V) (zs : List Pt) : Prop := ∃ a xs, v = .ref a ∧ SqT K H a xs ∧ Paired (PtAt K H) xs zs
section
variable {K : PySem.W.Frag} {H H' : Hp} {a l p b d : Addr} {o u : HO} {xs ys : List V} {v : V} {z : Pt} {zs : List Pt}
theorem PtAt.keep (e : TKeep K H H') (h : PtAt K H v z) : PtAt K H' v z := by
  obtain ⟨a, q, h⟩ := h
  exact ⟨a, q, e _ _ h⟩
theorem SampAt.keep (e : TKeep K H H') (h : SampAt K H v zs) : SampAt K H' v zs := by
  obtain ⟨a, xs, q, h, r⟩ := h
  exact ⟨a, xs, q, e _ _ h, Paired.mapP r fun _ _ => PtAt.keep e⟩
theorem PtAt.hs (e : Same H H') (h : PtAt K H v z) : PtAt K H' v z := h.keep (.ofSame e)
theorem PtAt.hu (n : H p = none) (h : PtAt K H v z) : PtAt K (L2.upd H p o) v z := h.hs (Same.up (Same.refl _) n)
theorem PtAt.hl (n : H p = some (.lst ys)) (h : PtAt K H v z) : PtAt K (L2.upd H p o) v z := h.keep (TKeep.upL .refl n)
theorem PtAt.hb (e : Bs K b d H H') (h : PtAt K H v z) : PtAt K H' v z := h.keep e.keep
theorem SampAt.hs (e : Same H H') (h : SampAt K H v zs) : SampAt K H' v zs := h.keep (.ofSame e)
theorem SampAt.hu (n : H p = none) (h : SampAt K H v zs) : SampAt K (L2.upd H p o) v zs := h.hs (Same.up (Same.refl _) n)
theorem SampAt.hl (n : H p = some (.lst ys)) (h : SampAt K H v zs) : SampAt K (L2.upd H p o) v zs := h.keep (TKeep.upL .refl n)
theorem SampAt.hb (e : Bs K b d H H') (h : SampAt K H v zs) : SampAt K H' v zs := h.keep e.keep
theorem PtAt.new {a : Addr} {x y : Int} : PtAt K (L2.upd H a (.tup [.int x, .int y])) (.ref a) (x, y) := ⟨a, rfl, SqT.new⟩
theorem PtAt.dp (h : PtAt K H v z) : Dp K H v (.tuple [.int z.1, .int z.2]) := by
  obtain ⟨a, rfl, h⟩ := h
  exact .tup h (.cons (.int _) (.cons (.int _) .nil))
def ptD (z : Pt) : PyData := .tuple [.int z.1, .int z.2]
def sampD (zs : List Pt) : PyData := .tuple (zs.map ptD)
theorem PtAt.ofDp (h : Dp K H v (ptD z)) : PtAt K H v z := by
  cases h with
  | tup h a => cases a with | cons h1 a => cases a with | cons h2 a => cases a; cases h1; cases h2; exact ⟨_, rfl, h⟩
theorem dpAll_ofPt : ∀ {xs : List V} {zs : List Pt}, Paired (PtAt K H) xs zs → DpAll K H xs (zs.map ptD)
  | _, _, .nil => .nil
  | _, _, .cons r t => .cons r.dp (dpAll_ofPt t)
theorem SampAt.dp (h : SampAt K H v zs) : Dp K H v (sampD zs) := by
  obtain ⟨a, xs, rfl, h, r⟩ := h
  exact .tup h (dpAll_ofPt r)
theorem pt_lay (z : Pt) : (ptD z).canLay0 = true ∧ (ptD z).depth ≤ 1 := by
  simp [ptD, PyData.canLay0, PyData.canLayAll0, PyData.depth, PyData.depthAll]
theorem pts_lay : ∀ zs : List Pt, PyData.canLayAll0 (zs.map ptD) = true ∧ PyData.depthAll (zs.map ptD) ≤ 1
  | [] => ⟨rfl, Nat.zero_le _⟩
  | z :: zs => by
    have h1 := pt_lay z
    have h2 := pts_lay zs
    simp only [List.map_cons, PyData.canLayAll0, PyData.depthAll, h1.1, h2.1, Bool.and_self, true_and]
    omega
theorem shaped_pt (z : Pt) : SeqAt.shaped (ptD z) = true := by
  have h := pt_lay z
  unfold SeqAt.shaped
  rw [h.1]; simp; omega
theorem shaped_samp (zs : List Pt) : SeqAt.shaped (sampD zs) = true := by
  have h := pts_lay zs
  unfold sampD
  rw [shaped_tup, h.1]; simp; omega
end
section
variable {K : PySem.W.Frag} {σ : St} {H : Hp} {Q : VK} {te : TE} {tt : TT} {i0 j0 : Nat} {a : Addr} {xs : List V} {zs : List Pt}
theorem samp_step {i : Nat} {z : Pt} {H' : Hp} {D : Addr} {c : Pt → Bool} {f : Pt → V} (hD : H D = none) (hsz : zs.length < 16777216) (ez : zs[i]? = some z) (hS : Same H H') (hl : H' D = some (.lst (((zs.take i).filter c).map f)))
    (ht : ∀ (z : Pt) (H' : Hp) (Q' : Bool → Hp → Prop), z ∈ zs → Same H H' → (∀ H4, Same H' H4 → Q' (c z) H4) → tt (((wipe σ [i0, j0]).set i0 (some (.int z.1))).set j0 (some (.int z.2))) H' Q')
    (hs : ∀ (z : Pt) (H' : Hp) (Q' : VK), z ∈ zs → Same H H' → (∀ H4, Same H' H4 → Q' (f z) H4) → te (((wipe σ [i0, j0]).set i0 (some (.int z.1))).set j0 (some (.int z.2))) H' Q') :
    tt (((wipe σ [i0, j0]).set i0 (some (.int z.1))).set j0 (some (.int z.2))) H' fun b H3 =>
      if b = true then te (((wipe σ [i0, j0]).set i0 (some (.int z.1))).set j0 (some (.int z.2))) H3 fun y H4 => ∃ acc, H4 D = some (.lst acc) ∧ acc.length < sizeLine ∧ (Same H (L2.upd H4 D (.lst (acc ++ [y]))) ∧ (L2.upd H4 D (.lst (acc ++ [y]))) D = some (.lst (((zs.take (i + 1)).filter c).map f))) else (Same H H3 ∧ H3 D = some (.lst (((zs.take (i + 1)).filter c).map f))) := by
  have hm : z ∈ zs := List.mem_of_getElem? ez
  have e : (zs.take (i + 1)).filter c = (zs.take i).filter c ++ if c z = true then [z] else [] := by
    rw [take_succ_of ez, List.filter_append]
    by_cases hc : c z = true
    · simp [hc]
    · simp [hc]
  refine ht z H' _ hm hS fun H3 h3 => ?_
  by_cases hc : c z = true
  · rw [if_pos hc]
    refine hs z H3 _ hm (hS.trans h3) fun H4 h4 => ⟨_, h4 _ _ (h3 _ _ hl), ?_, Same.upN ((hS.trans h3).trans h4) hD, ?_⟩
    · have h1 := List.length_filter_le c (zs.take i)
      have h2 := List.length_take_le' i zs
      rw [List.length_map, PySem.sizeLine_eq]; omega
    · rw [upd_same, e, if_pos hc, List.map_append]; rfl
  · rw [if_neg hc]
    exact ⟨hS.trans h3, by rw [e, if_neg hc, List.append_nil]; exact h3 _ _ hl⟩
theorem ll_sampT (f : Pt → V) (c : Pt → Bool) (hS : SqT K H a xs) (hx : Paired (PtAt K H) xs zs) (hsz : zs.length < 16777216)
    (hw : ∀ x y, wipe (((wipe σ [i0, j0]).set i0 (some x)).set j0 (some y)) [i0, j0] = wipe σ [i0, j0])
    (ht : ∀ (z : Pt) (H' : Hp) (Q' : Bool → Hp → Prop), z ∈ zs → Same H H' → (∀ H4, Same H' H4 → Q' (c z) H4) → tt (((wipe σ [i0, j0]).set i0 (some (.int z.1))).set j0 (some (.int z.2))) H' Q')
    (hs : ∀ (z : Pt) (H' : Hp) (Q' : VK), z ∈ zs → Same H H' → (∀ H4, Same H' H4 → Q' (f z) H4) → te (((wipe σ [i0, j0]).set i0 (some (.int z.1))).set j0 (some (.int z.2))) H' Q')
    (hd : ∀ D H', Same H H' → H' D = some (.lst ((zs.filter c).map f)) → H D = none → Q (.ref D) H') : LLoop (Itt K a) (gTup K 2 (gCons (gName i0) (gCons (gName j0) gNil))) tt te [i0, j0] σ H Q := by
  refine fun D hD => lc_tup (K := K) (a := a) (xs := xs) (fun i H' => Same H H' ∧ H' D = some (.lst (((zs.take i).filter c).map f))) ⟨Same.up (Same.refl _) hD, upd_same⟩ (fun i H' _ h => SqT.same h.1 hS) (fun i x H' hxi h => ?_) (fun H' h => ?_)
  · obtain ⟨h1, h2⟩ := h
    obtain ⟨z, ez, b, rfl, hb⟩ := Paired.get hx hxi
    exact ⟨b, _, rfl, SqT.same h1 hb, rfl, _, _, rfl, _, _, rfl, rfl, hw _ _, samp_step hD hsz ez h1 h2 ht hs⟩
  · obtain ⟨h1, h2⟩ := h
    rw [Paired.len hx, List.take_length] at h2
    exact hd D H' h1 h2 hD
theorem ll_sampL (f : Pt → V) (c : Pt → Bool) (hS : SqL K H a xs) (hx : Paired (PtAt K H) xs zs) (hsz : zs.length < 16777216)
    (hw : ∀ x y, wipe (((wipe σ [i0, j0]).set i0 (some x)).set j0 (some y)) [i0, j0] = wipe σ [i0, j0])
    (ht : ∀ (z : Pt) (H' : Hp) (Q' : Bool → Hp → Prop), z ∈ zs → Same H H' → (∀ H4, Same H' H4 → Q' (c z) H4) → tt (((wipe σ [i0, j0]).set i0 (some (.int z.1))).set j0 (some (.int z.2))) H' Q')
    (hs : ∀ (z : Pt) (H' : Hp) (Q' : VK), z ∈ zs → Same H H' → (∀ H4, Same H' H4 → Q' (f z) H4) → te (((wipe σ [i0, j0]).set i0 (some (.int z.1))).set j0 (some (.int z.2))) H' Q')
    (hd : ∀ D H', Same H H' → H' D = some (.lst ((zs.filter c).map f)) → H D = none → Q (.ref D) H') : LLoop (Itl K a) (gTup K 2 (gCons (gName i0) (gCons (gName j0) gNil))) tt te [i0, j0] σ H Q := by
  refine fun D hD => lc_list (K := K) (a := a) (xs := xs) (fun i H' => Same H H' ∧ H' D = some (.lst (((zs.take i).filter c).map f))) ⟨Same.up (Same.refl _) hD, upd_same⟩ (fun i H' _ h => SqL.same h.1 hS) (fun i x H' hxi h => ?_) (fun H' h => ?_)
  · obtain ⟨h1, h2⟩ := h
    obtain ⟨z, ez, b, rfl, hb⟩ := Paired.get hx hxi
    exact ⟨b, _, rfl, SqT.same h1 hb, rfl, _, _, rfl, _, _, rfl, rfl, hw _ _, samp_step hD hsz ez h1 h2 ht hs⟩
  · obtain ⟨h1, h2⟩ := h
    rw [Paired.len hx, List.take_length] at h2
    exact hd D H' h1 h2 hD
end
theorem tyes {z : Pt} {σ : Pt → St} {H H' : Hp} {zs : List Pt} {Q' : Bool → Hp → Prop} (hz : z ∈ zs) (hs : Same H H') (k : ∀ H4, Same H' H4 → Q' true H4) : tYes (σ z) H' Q' := k H' (Same.refl _)
/-! ### a step put in -/
abbrev insP (p : Pipe) (s : Step) (i : Nat) : Pipe := p.take i ++ [s] ++ p.drop i
def fitsB (p : Pipe) (zs : List Pt) : Bool := zs.all fun z => decide (p.val z.1 = z.2)
def insB (p : Pipe) (s : Step) (zs : List Pt) (i : Nat) : Bool := decide (insP p s i).ok && fitsB (insP p s i) zs
theorem insP_mem {p : Pipe} {s : Step} {i : Nat} {t : Step} (h : t ∈ insP p s i) : t = s ∨ t ∈ p := by
  unfold insP at h
  rcases List.mem_append.mp h with h | h
  · rcases List.mem_append.mp h with h | h
    · exact .inr (List.mem_of_mem_take h)
    · exact .inl (List.mem_singleton.mp h)
  · exact .inr (List.mem_of_mem_drop h)
theorem insP_pos {p : Pipe} {s : Step} (hp : p.pos) (hs : s.pos) (i : Nat) : (insP p s i).pos := fun t ht => by
  rcases insP_mem ht with rfl | h
  · exact hs
  · exact hp t h
theorem insP_oks {p : Pipe} {s : Step} (hp : ∀ t ∈ p, t.ok) (hs : s.ok) (i : Nat) : ∀ t ∈ insP p s i, t.ok := fun t ht => by
  rcases insP_mem ht with rfl | h
  · exact hs
  · exact hp t h
theorem insP_len (p : Pipe) (s : Step) (i : Nat) : (insP p s i).length = p.length + 1 := by
  unfold insP
  simp only [List.length_append, List.length_take, List.length_drop, List.length_cons, List.length_nil]
  omega
theorem fits_filter (p : Pipe) (zs : List Pt) : (zs.filter fun z => !decide (p.val z.1 = z.2)) = [] ↔ fitsB p zs = true := by
  unfold fitsB
  rw [List.filter_eq_nil_iff, List.all_eq_true]
  simp
end My
namespace My
open PySem L2
section
variable {K : PySem.W.Frag} {H : Hp} {Q : VK} {a : Addr}
theorem r_lenP {p : Pipe} (h : PipeAt K H (.ref a) p) (q : Q (.int p.length) H) : nLen K [.ref a] H Q := by
  obtain ⟨_, xs, e, h, r⟩ := h
  cases e
  exact r_lenT h (by rw [Paired.len r]; exact q)
theorem r_lenSm {zs : List Pt} (h : SampAt K H (.ref a) zs) (q : Q (.int zs.length) H) : nLen K [.ref a] H Q := by
  obtain ⟨_, xs, e, h, r⟩ := h
  cases e
  exact r_lenT h (by rw [Paired.len r]; exact q)
theorem pairNilP : Paired (PtAt K H) [] [] := .nil
theorem pairConsP {v : V} {s : Pt} {xs : List V} {p : List Pt} (h : PtAt K H v s) (t : Paired (PtAt K H) xs p) : Paired (PtAt K H) (v :: xs) (s :: p) := .cons h t
theorem SampAt.new {a : Addr} {xs : List V} {p : List Pt} (r : Paired (PtAt K (L2.upd H a (.tup xs))) xs p) : SampAt K (L2.upd H a (.tup xs)) (.ref a) p := ⟨a, xs, rfl, SqT.new, r⟩
theorem SampAt.nil {a : Addr} : SampAt K (L2.upd H a (.tup [])) (.ref a) [] := ⟨a, [], rfl, SqT.new, .nil⟩
end
def isSampD : PyData → Bool
  | .tuple ds => decide (ds.length = 2) && ds.all fun d => isIntD d (-1000000000000000000) 1000000000000000000
  | _ => false
def PtOk (z : Pt) : Prop := (-1000000000000000000 ≤ z.1 ∧ z.1 ≤ 1000000000000000000) ∧ (-1000000000000000000 ≤ z.2 ∧ z.2 ≤ 1000000000000000000)
instance (z : Pt) : Decidable (PtOk z) := by unfold PtOk; infer_instance
theorem isSampD_pt (z : Pt) : isSampD (ptD z) = true ↔ PtOk z := by
  simp [isSampD, ptD, isIntD, PtOk]
def insL (p : Pipe) (s : Step) (zs : List Pt) (n : Nat) : List Int := ((List.range n).filter (insB p s zs)).map fun (i : Nat) => (i : Int)
theorem insL_succ (p : Pipe) (s : Step) (zs : List Pt) (n : Nat) : insL p s zs (n + 1) = insL p s zs n ++ if insB p s zs n = true then [(n : Int)] else [] := by
  unfold insL
  rw [List.range_succ, List.filter_append, List.map_append]
  by_cases h : insB p s zs n = true
  · simp [h]
  · simp [h]
theorem insL_len (p : Pipe) (s : Step) (zs : List Pt) (n : Nat) : (insL p s zs n).length ≤ n := by
  unfold insL
  rw [List.length_map]
  have := List.length_filter_le (insB p s zs) (List.range n)
  rwa [List.length_range] at this
theorem insB_iff {p : Pipe} {s : Step} {zs : List Pt} {i : Nat} : insB p s zs i = true ↔ (insP p s i).ok ∧ fitsB (insP p s i) zs = true := by
  unfold insB; simp
theorem PipeAt.ref {K : PySem.W.Frag} {H : Hp} {v : V} {p : Pipe} (h : PipeAt K H v p) : ∃ a, v = .ref a := by
  obtain ⟨a, _, e, _⟩ := h
  exact ⟨a, e⟩
theorem SampAt.ref {K : PySem.W.Frag} {H : Hp} {v : V} {p : List Pt} (h : SampAt K H v p) : ∃ a, v = .ref a := by
  obtain ⟨a, _, e, _⟩ := h
  exact ⟨a, e⟩
theorem StepAt.ref {K : PySem.W.Frag} {H : Hp} {v : V} {s : Step} (h : StepAt K H v s) : ∃ a, v = .ref a := by
  obtain ⟨a, e, _⟩ := h
  exact ⟨a, e⟩
end My

/-! ### the first difference of two pipelines in search order -/
namespace My
open PySem L2
theorem agree_all {f g : Int → Int} {P R P' R' : Int} (hf : QP f P R) (hg : QP g P' R') (hP : 0 < P) (hP' : 0 < P') (h : ∀ x, -(P + P') ≤ x → x ≤ P + P' → f x = g x) : ∀ x, f x = g x := by
  have up : ∀ n : Nat, ∀ x : Int, -(P + P') ≤ x → x ≤ n → f x = g x := by
    intro n
    induction n with
    | zero => intro x h1 h2; exact h x h1 (by omega)
    | succ n ih =>
      intro x h1 h2
      rcases Int.lt_or_le (P + P') x with hx | hx
      · have a1 := hf (x - P)
        have a2 := hg (x - P - P')
        have a3 := hf (x - P - P')
        have a4 := hg (x - P')
        rw [show x - P + P = x by omega] at a1
        rw [show x - P - P' + P' = x - P by omega] at a2
        rw [show x - P - P' + P = x - P' by omega] at a3
        rw [show x - P' + P' = x by omega] at a4
        have b1 := ih (x - P) (by omega) (by omega)
        have b2 := ih (x - P - P') (by omega) (by omega)
        have b3 := ih (x - P') (by omega) (by omega)
        omega
      · exact h x h1 hx
  have dn : ∀ n : Nat, ∀ x : Int, x ≤ P + P' → -(n : Int) ≤ x → f x = g x := by
    intro n
    induction n with
    | zero => intro x h1 h2; exact h x (by omega) h1
    | succ n ih =>
      intro x h1 h2
      rcases Int.lt_or_le x (-(P + P')) with hx | hx
      · have a1 := hf x
        have a2 := hg (x + P)
        have a3 := hf (x + P')
        have a4 := hg x
        rw [show x + P' + P = x + P + P' by omega] at a3
        have b1 := ih (x + P) (by omega) (by omega)
        have b2 := ih (x + P + P') (by omega) (by omega)
        have b3 := ih (x + P') (by omega) (by omega)
        omega
      · exact h x hx h1
  intro x
  rcases Int.le_total x (P + P') with hx | hx
  · exact dn x.natAbs x hx (by omega)
  · exact up x.natAbs x (by omega) (by omega)
def difL (f g : Int → Int) (xs : List Int) : Option Int := xs.find? fun x => decide (f x ≠ g x)
theorem dif_take {f g : Int → Int} {xs : List Int} {i : Nat} {x : Int} (h : xs[i]? = some x) (hn : difL f g (xs.take i) = none) : difL f g (xs.take (i + 1)) = if f x = g x then none else some x := by
  unfold difL at *
  rw [List.take_add_one, h, List.find?_append, hn]
  by_cases hx : f x = g x
  · simp [hx]
  · simp [hx]
theorem dif_take_some {f g : Int → Int} {xs : List Int} {i : Nat} {x z : Int} (h : xs[i]? = some x) (hn : difL f g (xs.take i) = some z) : difL f g (xs.take (i + 1)) = some z := by
  unfold difL at *
  rw [List.take_add_one, h, List.find?_append, hn]
  rfl
theorem dif_at {f g : Int → Int} {xs : List Int} {i : Nat} {x : Int} (h : xs[i]? = some x) (hn : difL f g (xs.take i) = none) (hx : f x ≠ g x) : difL f g xs = some x := by
  have h1 := dif_take h hn
  rw [if_neg hx] at h1
  have : xs = xs.take (i + 1) ++ xs.drop (i + 1) := (List.take_append_drop _ _).symm
  unfold difL at *
  rw [this, List.find?_append, h1]; rfl
theorem dif_none {f g : Int → Int} {P R P' R' : Int} {n : Nat} (hf : QP f P R) (hg : QP g P' R') (hP : 0 < P) (hP' : 0 < P') (hn : P + P' ≤ n) : difL f g (ordL n) = none ↔ ∀ x, f x = g x := by
  unfold difL
  rw [List.find?_eq_none]
  constructor
  · intro h
    refine agree_all hf hg hP hP' fun x h1 h2 => ?_
    have := h x (ordL_mem n x (by omega) (by omega))
    simpa using this
  · intro h x _
    simp [h x]
theorem dif_eq {f g : Int → Int} {P R P' R' : Int} {n m : Nat} (hf : QP f P R) (hg : QP g P' R') (hP : 0 < P) (hP' : 0 < P') (hn : P + P' ≤ n) (h : n ≤ m) : difL f g (ordL m) = difL f g (ordL n) := by
  obtain ⟨t, ht⟩ := ordL_pre h
  cases hh : difL f g (ordL n) with
  | some z =>
    unfold difL at *
    rw [ht, List.find?_append, hh]; rfl
  | none => exact (dif_none hf hg hP hP' (by omega)).mpr ((dif_none hf hg hP hP' hn).mp hh)
theorem dif_sym (f g : Int → Int) (xs : List Int) : difL f g xs = difL g f xs := by
  unfold difL
  congr 1
  funext x
  exact decide_eq_decide.mpr ⟨fun h e => h e.symm, fun h e => h e.symm⟩
theorem dif_some {f g : Int → Int} {xs : List Int} {x : Int} (h : difL f g xs = some x) : f x ≠ g x := by
  unfold difL at h
  have := List.find?_some h
  simpa using this
theorem dif_self (f : Int → Int) (xs : List Int) : difL f f xs = none := by
  unfold difL
  rw [List.find?_eq_none]
  intro x _
  simp
/-- the value of first_difference -/
structure DifO (p q : Pipe) (o : Option Int) : Prop where
  ex : ∃ n : Nat, o = difL p.val q.val (ordL n) ∧ (∀ m, n ≤ m → difL p.val q.val (ordL m) = o) ∧ (n : Int) ≤ p.prod + q.prod
theorem DifO.at {p q : Pipe} {o : Option Int} (h : DifO p q o) {m : Nat} (hm : p.prod + q.prod ≤ m) : difL p.val q.val (ordL m) = o := by
  obtain ⟨n, _, h2, h3⟩ := h.ex
  exact h2 m (by omega)
theorem DifO.mk' {p q : Pipe} (hp : p.pos) (hq : q.pos) {P R P' R' : Int} (l : Least p.val P R) (l' : Least q.val P' R') {n : Nat} (hn : (n : Int) = P + P') : DifO p q (difL p.val q.val (ordL n)) := by
  have b1 := (l.bounds hp).1
  have b2 := (l'.bounds hq).1
  exact ⟨n, rfl, fun m hm => dif_eq l.qp l'.qp l.pos l'.pos (by omega) hm, by omega⟩
theorem DifO.uniq {p q : Pipe} (hp : p.pos) (hq : q.pos) {o o' : Option Int} (h : DifO p q o) (h' : DifO p q o') : o = o' := by
  have h1 := Pipe.prod_pos' hp
  have h2 := Pipe.prod_pos' hq
  rw [← h.at (m := (p.prod + q.prod).toNat) (by omega), ← h'.at (m := (p.prod + q.prod).toNat) (by omega)]
theorem DifO.symm {p q : Pipe} {o : Option Int} (h : DifO p q o) : DifO q p o := by
  obtain ⟨n, h1, h2, h3⟩ := h.ex
  exact ⟨n, by rw [h1, dif_sym], fun m hm => by rw [dif_sym]; exact h2 m hm, by omega⟩
theorem DifO.none_iff {p q : Pipe} (hp : p.pos) (hq : q.pos) {o : Option Int} (h : DifO p q o) : o = none ↔ ∀ x, p.val x = q.val x := by
  have h1 := Pipe.prod_pos' hp
  have h2 := Pipe.prod_pos' hq
  rw [← h.at (m := (p.prod + q.prod).toNat) (by omega)]
  exact dif_none (Pipe.qp hp) (Pipe.qp hq) (by omega) (by omega) (by omega)
theorem DifO.some {p q : Pipe} {x : Int} (h : DifO p q (some x)) : p.val x ≠ q.val x := by
  obtain ⟨n, h1, _⟩ := h.ex
  exact dif_some h1.symm
theorem DifO.self {p : Pipe} (hp : p.pos) {o : Option Int} (h : DifO p p o) : o = none := (h.none_iff hp hp).mpr fun _ => rfl
theorem optV_isN (o : Option Int) : decide (optV o = V.non) = o.isNone := by
  cases o with
  | none => exact decide_eq_true rfl
  | some x => exact decide_eq_false (by intro h; cases h)
end My
namespace My
open PySem L2
/-! ### a step replaced -/
abbrev repP (p : Pipe) (s : Step) (i : Nat) : Pipe := p.take i ++ [s] ++ p.drop (i + 1)
theorem repP_mem {p : Pipe} {s : Step} {i : Nat} {t : Step} (h : t ∈ repP p s i) : t = s ∨ t ∈ p := by
  unfold repP at h
  rcases List.mem_append.mp h with h | h
  · rcases List.mem_append.mp h with h | h
    · exact .inr (List.mem_of_mem_take h)
    · exact .inl (List.mem_singleton.mp h)
  · exact .inr (List.mem_of_mem_drop h)
theorem repP_pos {p : Pipe} {s : Step} (hp : p.pos) (hs : s.pos) (i : Nat) : (repP p s i).pos := fun t ht => by
  rcases repP_mem ht with rfl | h
  · exact hs
  · exact hp t h
theorem repP_oks {p : Pipe} {s : Step} (hp : ∀ t ∈ p, t.ok) (hs : s.ok) (i : Nat) : ∀ t ∈ repP p s i, t.ok := fun t ht => by
  rcases repP_mem ht with rfl | h
  · exact hs
  · exact hp t h
theorem repP_len {p : Pipe} {s : Step} {i : Nat} (h : i < p.length) : (repP p s i).length = p.length := by
  unfold repP
  simp only [List.length_append, List.length_take, List.length_drop, List.length_cons, List.length_nil]
  omega
section
variable {K : PySem.W.Frag} {H : Hp} {Q : VK} {a : Addr}
theorem r_slPfrom1 {p : Pipe} {n : Nat} (h : PipeAt K H (.ref a) p) (q : ∀ c H', Same H H' → PipeAt K H' (.ref c) (p.drop (n + 1)) → Q (.ref c) H') : rSlA K (.ref a) (some ((n : Nat) + 1 : Int)) none H Q := r_slPfrom (n := n + 1) h q
theorem r_ixP {p : Pipe} {n : Nat} (h : PipeAt K H (.ref a) p) (hn : n < p.length) (q : ∀ v, StepAt K H v p[n] → Q v H) : rIxT K (.ref a) (.int (n : Int)) H Q := by
  obtain ⟨_, xs, e, h, r⟩ := h
  cases e
  have hl := Paired.len r
  have hx : n < xs.length := by omega
  obtain ⟨s, hs, f⟩ := Paired.get r (List.getElem?_eq_getElem hx)
  rw [List.getElem?_eq_getElem hn] at hs
  cases hs
  exact r_ixT h (at_of (j := n) rfl (List.getElem?_eq_getElem hx)) (q _ f)
theorem r_ixLP {xs : List V} {p : Pipe} {n : Nat} (h : SqL K H a xs) (r : Paired (StepAt K H) xs p) (hn : n < p.length) (q : ∀ v s, StepAt K H v s → p[n]? = some s → Q v H) : rIxL K (.ref a) (.int (n : Int)) H Q := by
  have hl := Paired.len r
  have hx : n < xs.length := by omega
  obtain ⟨s, hs, f⟩ := Paired.get r (List.getElem?_eq_getElem hx)
  exact r_ixL h (at_of (j := n) rfl (List.getElem?_eq_getElem hx)) (q _ s f hs)
theorem set_oks {p : Pipe} {s : Step} (h : ∀ t ∈ p, t.ok) (hs : s.ok) (n : Nat) : ∀ t ∈ p.set n s, t.ok := fun t ht => by
  rcases List.mem_or_eq_of_mem_set ht with h' | rfl
  · exact h t h'
  · exact hs
end
theorem ixN_nat {n i : Nat} (h : i < n) : ixN n (i : Int) = some i := by
  unfold ixN
  rw [if_pos (by omega), if_pos (by omega)]
  simp
theorem Paired.set' {α β : Type} {F : α → β → Prop} : ∀ (n : Nat) {xs : List α} {ys : List β} {x : α} {y : β}, Paired F xs ys → F x y → Paired F (xs.set n x) (ys.set n y)
  | _, _, _, _, _, .nil, _ => .nil
  | 0, _, _, _, _, .cons _ t, h => .cons h t
  | n + 1, _, _, _, _, .cons r t, h => .cons r (Paired.set' n t h)
end My

/-! ### xs[a:b] = ys of a list -/
namespace My
open PySem L2
def gSli (to ta tc : TE) : TG := fun v σ H Q => to σ H fun o H1 => ta σ H1 fun x H2 => tc σ H2 fun y H3 => ∃ (l b : Addr) (xs ys : List V) (a c : Int), o = .ref l ∧ v = .ref b ∧ x = .int a ∧ y = .int c ∧ H3 l = some (.lst xs) ∧ H3 b = some (.lst ys) ∧ l ≠ b ∧ 0 ≤ a ∧ a ≤ c ∧ c ≤ xs.length ∧ xs.length + ys.length ≤ sizeLine ∧ Q σ (upd H3 l (.lst (xs.take a.toNat ++ ys ++ xs.drop c.toNat)))
theorem pg_slc {X : Cx} {o lo hi : Expr} {to ta tc : TE} {p2 pos : Pos} (ho : PE X o to) (hl : PE X lo ta) (hu : PE X hi tc) : PG X (.Subscript o (.Slice (some lo) (some hi) none p2) pos) (gSli to ta tc) := by
  refine ⟨fun pins s σ H v u Q I r h => ?_⟩
  rw [arm_assign_Subscript]
  refine wpAny_bind (wpAny_holding (thn (ho.run pins s σ H _ I h) fun ov s1 ⟨x, H1, I1, r1, q1⟩ => ?_))
  refine wpAny_bind (wpAny_holding (wpAny_Slice ?_))
  rw [evalPart_some]
  refine thn (hl.run pins s1 σ H1 _ I1 q1) fun vl s2 ⟨x2, H2, I2, r2, q2⟩ => ?_
  rw [evalPart_some]
  refine thn (hu.run pins s2 σ H2 _ I2 q2) fun vu s3 ⟨y, H3, I3, r3, q3⟩ => ?_
  rw [evalPart_none]
  refine wpAny_pure ?_
  obtain ⟨l, b, xs, ys, a, c, rfl, rfl, rfl, rfl, hL, hB, hne, h0, hac, hc, hz, q⟩ := q3
  cases r1
  cases r
  have I4 : Inv X pins σ H3 { s3 with heap := s3.heap.push { cls := .type "slice", data := .fields #[vl, vu, .none] } } := I3.kept (t' := s3.toks) fun b ob q => Heap.get?_push_of_some _ q
  refine wpAny_bind (wpAny_standAt (wpAny_bind (wpAny_holding (set_slice I4 hL hB hne (Heap.IsSliceOf.new ..) r2 r3 h0 hac hc hz fun s' I' => ?_))))
  exact wpAny_release ⟨σ, _, I', q⟩
section
variable {K : PySem.W.Frag} {σ : St} {H : Hp} {Q : VK} {to ta tc : TE} {v : V} {R : St → Hp → Prop}
def nSli (v o x y : V) (H3 : Hp) (q : Hp → Prop) : Prop := ∃ (l b : Addr) (xs ys : List V) (a c : Int), o = .ref l ∧ v = .ref b ∧ x = .int a ∧ y = .int c ∧ H3 l = some (.lst xs) ∧ H3 b = some (.lst ys) ∧ l ≠ b ∧ 0 ≤ a ∧ a ≤ c ∧ c ≤ xs.length ∧ xs.length + ys.length ≤ sizeLine ∧ q (upd H3 l (.lst (xs.take a.toNat ++ ys ++ xs.drop c.toNat)))
theorem s_sli (h : to σ H fun o H1 => ta σ H1 fun x H2 => tc σ H2 fun y H3 => nSli v o x y H3 (R σ)) : gSli to ta tc v σ H R := h
theorem r_sliN {l b : Addr} {xs ys : List V} {n : Nat} {q : Hp → Prop} (hL : H l = some (.lst xs)) (hB : H b = some (.lst ys)) (hne : l ≠ b) (hn : n < xs.length) (hz : xs.length + ys.length ≤ 16777216) (k : q (upd H l (.lst (xs.take n ++ ys ++ xs.drop (n + 1))))) : nSli (.ref b) (.ref l) (.int (n : Int)) (.int ((n : Int) + 1)) H q :=
  ⟨l, b, xs, ys, n, (n : Int) + 1, rfl, rfl, rfl, rfl, hL, hB, hne, by omega, by omega, by omega, sz_le hz, by simpa using k⟩
/-- rows == [] of a list of steps -/
theorem r_eqNilLs {a b : Addr} {xs : List V} {p : Pipe} (h : SqL K H a xs) (r : Paired (StepAt K H) xs p) (h' : SqL K H b []) (q : Q (.bl p.isEmpty) H) : rEqD K (.ref a) (.ref b) H Q := by
  refine r_eqD (.lst h (dpAll_of r)) (.lst h' .nil) ?_ rfl ?_
  · have hl := steps_lay p
    unfold SeqAt.shaped
    have h2 := hl.2
    simp [PyData.canLay0, PyData.depth, hl.1]
    omega
  · cases p <;> exact q
end
theorem Pipe.rises_app : ∀ q p : Pipe, Pipe.rises (q ++ p) = q.rises * p.rises
  | [], p => by rw [List.nil_append]; show _ = 1 * _; rw [Int.one_mul]
  | s :: q, p => by rw [List.cons_append, Pipe.rises_cons, Pipe.rises_cons, Pipe.rises_app q p, Int.mul_assoc]
theorem pow120_mono {m n : Nat} (h : m ≤ n) : (120 : Int) ^ m ≤ 120 ^ n := by
  obtain ⟨k, rfl⟩ := Nat.exists_eq_add_of_le h
  rw [Int.pow_add]
  have h1 := one_le_pow120 k
  have h2 := one_le_pow120 m
  have := Int.mul_le_mul_of_nonneg_left h1 (show 0 ≤ (120 : Int) ^ m by omega)
  omega
/-- at most n rises of 120 -/
def RiseLe (p : Pipe) (n : Nat) : Prop := p.rises ≤ 120 ^ n
theorem RiseLe.len {p : Pipe} (hp : p.pos) {n : Nat} (h : p.length ≤ n) : RiseLe p n := Pipe.rises_le n hp h
theorem RiseLe.split {p q : Pipe} {c c' m : Int} (hp : p.pos) (hq : q.pos) {n : Nat} (h : p.length + q.length ≤ n) : RiseLe (p ++ [.sc 1 1 c, .sc 1 m c'] ++ q) n := by
  have h1 := RiseLe.len (p := p ++ q) (fun s hs => by rcases List.mem_append.mp hs with h | h; exact hp s h; exact hq s h) (n := n) (by rw [List.length_append]; exact h)
  unfold RiseLe at *
  rw [Pipe.rises_app] at h1
  rw [Pipe.rises_app, Pipe.rises_app]
  have e : Pipe.rises [.sc 1 1 c, .sc 1 m c'] = 1 := by simp [Pipe.rises, Step.rise]
  rw [e, Int.mul_one]; exact h1
theorem cut_pair {F : V → Step → Prop} {xs : List V} {p : Pipe} (n : Nat) (h : Paired F xs p) : Paired F (cutV xs none (some (n : Int)) ++ cutV xs (some ((n : Int) + 1)) none) (p.take n ++ p.drop (n + 1)) := by
  rw [cut_to, show ((n : Int) + 1) = ((n + 1 : Nat) : Int) from rfl, cut_from]
  exact Paired.app (Paired.take' n h) (Paired.drop' (n + 1) h)
theorem cut_oks {p : Pipe} (h : ∀ t ∈ p, t.ok) (n m : Nat) : ∀ t ∈ p.take n ++ p.drop m, t.ok := fun t ht => by
  rcases List.mem_append.mp ht with h' | h'
  · exact h t (List.mem_of_mem_take h')
  · exact h t (List.mem_of_mem_drop h')
theorem spl_oks {p : Pipe} {s s' : Step} (h : ∀ t ∈ p, t.ok) (hs : s.ok) (hs' : s'.ok) (n m : Nat) : ∀ t ∈ p.take n ++ [s, s'] ++ p.drop m, t.ok := fun t ht => by
  rcases List.mem_append.mp ht with h' | h'
  · rcases List.mem_append.mp h' with h' | h'
    · exact h t (List.mem_of_mem_take h')
    · simp only [List.mem_cons, List.not_mem_nil, or_false] at h'
      rcases h' with rfl | rfl
      · exact hs
      · exact hs'
  · exact h t (List.mem_of_mem_drop h')
theorem poss {p : Pipe} (h : ∀ t ∈ p, t.ok) : p.pos := fun t ht => (h t ht).pos
section
variable {K : PySem.W.Frag} {H : Hp} {Q : VK}
theorem eqv_nilP (p : Pipe) : PyData.eqv (pipeD p) (.tuple []) = p.isEmpty := by
  cases p <;> rfl
theorem r_neNilP {a b : Addr} {p : Pipe} (h : PipeAt K H (.ref a) p) (h' : SqT K H b []) (q : Q (.bl (!p.isEmpty)) H) : rNeD K (.ref a) (.ref b) H Q :=
  r_neD h.dp (Dp.tup h' .nil) (shaped_pipe p) rfl (by rw [eqv_nilP]; exact q)
theorem r_eqNilP {a b : Addr} {p : Pipe} (h : PipeAt K H (.ref a) p) (h' : SqT K H b []) (q : Q (.bl p.isEmpty) H) : rEqD K (.ref a) (.ref b) H Q :=
  r_eqD h.dp (Dp.tup h' .nil) (shaped_pipe p) rfl (by rw [eqv_nilP]; exact q)
theorem r_slP1 {a : Addr} {p : Pipe} (h : PipeAt K H (.ref a) p) (q : ∀ c H', Same H H' → PipeAt K H' (.ref c) (p.take 1) → Q (.ref c) H') : rSlA K (.ref a) none (some 1) H Q := r_slPto (n := 1) h q
end
theorem repP_repP {p : Pipe} {x y : Step} {n : Nat} (h : n < p.length) : repP (repP p x n) y n = repP p y n := by
  have hl : (p.take n).length = n := by rw [List.length_take]; omega
  have e1 : (p.take n ++ [x] ++ p.drop (n + 1)).take n = p.take n := by
    rw [List.append_assoc, List.take_append_of_le_length (by omega), List.take_take, Nat.min_self]
  have e2 : (p.take n ++ [x] ++ p.drop (n + 1)).drop (n + 1) = p.drop (n + 1) := by
    rw [show n + 1 = (p.take n ++ [x]).length by simp only [List.length_append, hl, List.length_cons, List.length_nil], List.drop_left]
  show (p.take n ++ [x] ++ p.drop (n + 1)).take n ++ [y] ++ (p.take n ++ [x] ++ p.drop (n + 1)).drop (n + 1) = _
  rw [e1, e2]
theorem repP_self {p : Pipe} {n : Nat} (h : n < p.length) : repP p p[n] n = p := by
  show p.take n ++ [p[n]] ++ p.drop (n + 1) = p
  rw [List.append_assoc, List.singleton_append, ← List.drop_eq_getElem_cons h, List.take_append_drop]
theorem repP_prod {p : Pipe} (hp : p.pos) {s : Step} (hs : s.pos) {n : Nat} (h : n < p.length) (hle : s.per ≤ p[n].per) : (repP p s n).prod ≤ p.prod := by
  have e : p.prod = Pipe.prod (p.take n) * p[n].per * Pipe.prod (p.drop (n + 1)) := by
    have h0 := congrArg Pipe.prod (repP_self h)
    rw [← h0]
    show Pipe.prod (p.take n ++ [p[n]] ++ p.drop (n + 1)) = _
    rw [Pipe.prod_app, Pipe.prod_app]
    simp [Pipe.prod]
  rw [e]
  show Pipe.prod (p.take n ++ [s] ++ p.drop (n + 1)) ≤ _
  rw [Pipe.prod_app, Pipe.prod_app]
  have e2 : Pipe.prod [s] = s.per := by simp [Pipe.prod]
  rw [e2]
  have t1 := Pipe.prod_pos' (p := p.take n) fun t ht => hp t (List.mem_of_mem_take ht)
  have t2 := Pipe.prod_pos' (p := p.drop (n + 1)) fun t ht => hp t (List.mem_of_mem_drop ht)
  exact Int.mul_le_mul_of_nonneg_right (Int.mul_le_mul_of_nonneg_left hle (by omega)) (by omega)
theorem one_ok {s : Step} (h : s.ok) : Pipe.ok [s] := by
  refine ⟨by simp, by simpa using h, ?_⟩
  have := (Step.per_pos h).2
  simp [Pipe.prod]; exact this
theorem rep_one_ok {p : Pipe} (ok : p.ok) {n : Nat} (h : n < p.length) {c : Int} (hc : -1000000000 ≤ c ∧ c ≤ 1000000000) : (repP p (.sc 1 1 c) n).ok := by
  have hs : Step.ok (.sc 1 1 c) := ⟨⟨by decide, by decide⟩, ⟨by decide, by decide⟩, hc⟩
  refine ⟨by rw [repP_len h]; exact ok.1, repP_oks ok.2.1 hs n, Int.le_trans (repP_prod ok.pos hs.pos h ?_) ok.2.2⟩
  exact (Step.per_pos (ok.2.1 _ (List.getElem_mem h))).1
end My

/-! ### arbitrary data: depth, lengths; what a call has laid anew -/
namespace My
open PySem L2
def okD (n : Nat) : Nat → PyData → Prop
  | _, .none => True
  | _, .bool _ => True
  | _, .int _ => True
  | _, .str s => PyData.canLay0 (.str s) = true
  | 0, .list ds => ds = []
  | 0, .tuple ds => ds = []
  | k + 1, .list ds => ds.length ≤ n ∧ ∀ d ∈ ds, okD n k d
  | k + 1, .tuple ds => ds.length ≤ n ∧ ∀ d ∈ ds, okD n k d
  | _, .dict _ => False
theorem all_lay {m : Nat} : ∀ {ds : List PyData}, (∀ d ∈ ds, d.canLay0 = true ∧ d.depth ≤ m) → PyData.canLayAll0 ds = true ∧ PyData.depthAll ds ≤ m
  | [], _ => ⟨rfl, Nat.zero_le _⟩
  | d :: ds, h => by
    have h1 := h d List.mem_cons_self
    have h2 := all_lay (ds := ds) fun x hx => h x (List.mem_cons_of_mem _ hx)
    simp only [PyData.canLayAll0, PyData.depthAll, h1.1, h2.1, Bool.and_self, true_and]
    omega
theorem okD_lay {n : Nat} : ∀ {k : Nat} {d : PyData}, okD n k d → d.canLay0 = true ∧ d.depth ≤ k + 1
  | k, .none, _ => by simp [PyData.canLay0, PyData.depth]
  | k, .bool _, _ => by simp [PyData.canLay0, PyData.depth]
  | k, .int _, _ => by simp [PyData.canLay0, PyData.depth]
  | k, .str s, h => by
    have h : PyData.canLay0 (.str s) = true := by cases k <;> exact h
    exact ⟨h, by simp [PyData.depth]⟩
  | 0, .list ds, h => by have h : ds = [] := h; subst h; simp [PyData.canLay0, PyData.canLayAll0, PyData.depth, PyData.depthAll]
  | 0, .tuple ds, h => by have h : ds = [] := h; subst h; simp [PyData.canLay0, PyData.canLayAll0, PyData.depth, PyData.depthAll]
  | k + 1, .list ds, h => by
    have h2 := all_lay (m := k + 1) fun d hd => okD_lay (h.2 d hd)
    simp only [PyData.canLay0, PyData.depth, h2.1, true_and]
    omega
  | k + 1, .tuple ds, h => by
    have h2 := all_lay (m := k + 1) fun d hd => okD_lay (h.2 d hd)
    simp only [PyData.canLay0, PyData.depth, h2.1, true_and]
    omega
  | 0, .dict _, h => h.elim
  | _ + 1, .dict _, h => h.elim
theorem okD_shaped {n k : Nat} {d : PyData} (h : okD n k d) (hk : k ≤ 60) : SeqAt.shaped d = true := by
  have := okD_lay h
  unfold SeqAt.shaped
  rw [this.1]
  simp
  omega
theorem okD_mono {n n' : Nat} (hn : n ≤ n') : ∀ {k k' : Nat} {d : PyData}, k ≤ k' → okD n k d → okD n' k' d
  | k, k', .none, _, _ => by cases k' <;> exact True.intro
  | k, k', .bool _, _, _ => by cases k' <;> exact True.intro
  | k, k', .int _, _, _ => by cases k' <;> exact True.intro
  | k, k', .str s, _, h => by
    have h : PyData.canLay0 (.str s) = true := by cases k <;> exact h
    cases k' <;> exact h
  | 0, k', .list ds, _, h => by
    have h : ds = [] := h
    subst h
    cases k' with
    | zero => rfl
    | succ k' => exact ⟨Nat.zero_le _, by simp⟩
  | 0, k', .tuple ds, _, h => by
    have h : ds = [] := h
    subst h
    cases k' with
    | zero => rfl
    | succ k' => exact ⟨Nat.zero_le _, by simp⟩
  | k + 1, 0, _, hk, _ => by omega
  | k + 1, k' + 1, .list ds, hk, h => ⟨Nat.le_trans h.1 hn, fun d hd => okD_mono hn (by omega) (h.2 d hd)⟩
  | k + 1, k' + 1, .tuple ds, hk, h => ⟨Nat.le_trans h.1 hn, fun d hd => okD_mono hn (by omega) (h.2 d hd)⟩
  | 0, _, .dict _, _, h => h.elim
  | _ + 1, _, .dict _, _, h => h.elim
/-! values -/
def DV (K : PySem.W.Frag) (G : Hp) (n k : Nat) (x : V) : Prop := ∃ d, Dp K G x d ∧ okD n k d
section
variable {K : PySem.W.Frag} {G G' H H0 H' H1 : Hp} {n n' k k' : Nat} {x v : V} {xs ys : List V} {p : Addr} {o : HO}
theorem DV.same (e : Same G G') (h : DV K G n k x) : DV K G' n k x := by
  obtain ⟨d, h1, h2⟩ := h
  exact ⟨d, Dp.same e h1, h2⟩
theorem DV.mono (hn : n ≤ n') (hk : k ≤ k') (h : DV K G n k x) : DV K G n' k' x := by
  obtain ⟨d, h1, h2⟩ := h
  exact ⟨d, h1, okD_mono hn hk h2⟩
theorem dv_all : ∀ {xs : List V}, (∀ x ∈ xs, DV K G n k x) → ∃ ds, DpAll K G xs ds ∧ (∀ d ∈ ds, okD n k d) ∧ ds.length = xs.length
  | [], _ => ⟨[], .nil, by simp, rfl⟩
  | x :: xs, h => by
    obtain ⟨d, h1, h2⟩ := h x List.mem_cons_self
    obtain ⟨ds, g1, g2, g3⟩ := dv_all (xs := xs) fun y hy => h y (List.mem_cons_of_mem _ hy)
    refine ⟨d :: ds, .cons h1 g1, fun e he => ?_, by simp [g3]⟩
    rcases List.mem_cons.mp he with rfl | he
    · exact h2
    · exact g2 e he
theorem DV.tup (h : SqT K G p xs) (hl : xs.length ≤ n) (ha : ∀ x ∈ xs, DV K G n k x) : DV K G n (k + 1) (.ref p) := by
  obtain ⟨ds, g1, g2, g3⟩ := dv_all ha
  exact ⟨.tuple ds, .tup h g1, by omega, g2⟩
theorem DV.lst (h : SqL K G p xs) (hl : xs.length ≤ n) (ha : ∀ x ∈ xs, DV K G n k x) : DV K G n (k + 1) (.ref p) := by
  obtain ⟨ds, g1, g2, g3⟩ := dv_all ha
  exact ⟨.list ds, .lst h g1, by omega, g2⟩
theorem dv_mem : ∀ {xs : List V} {ds : List PyData}, DpAll K G xs ds → (∀ d ∈ ds, okD n k d) → ∀ x ∈ xs, DV K G n k x
  | _, _, .nil, _, x, h => by cases h
  | _, _, .cons h t, ho, x, hx => by
    rcases List.mem_cons.mp hx with rfl | hx
    · exact ⟨_, h, ho _ List.mem_cons_self⟩
    · exact dv_mem t (fun d hd => ho d (List.mem_cons_of_mem _ hd)) x hx
theorem DV.int (i : Int) : DV K G n k (.int i) := ⟨.int i, .int i, by cases k <;> exact True.intro⟩
theorem DV.bl (b : Bool) : DV K G n k (.bl b) := ⟨.bool b, .bl b, by cases k <;> exact True.intro⟩
theorem DV.non : DV K G n k .non := ⟨.none, .non, by cases k <;> exact True.intro⟩
theorem DV.str {s : Str} (h : PyData.canLay0 (.str s) = true) : DV K G n k (.str s) := ⟨.str s, .str s, by cases k <;> exact h⟩
theorem DV.pipe {p : Pipe} (h : PipeAt K G v p) (hl : p.length ≤ 6) : DV K G 6 2 v := by
  refine ⟨pipeD p, h.dp, by simpa using hl, fun d hd => ?_⟩
  obtain ⟨s, hs, rfl⟩ := List.mem_map.mp hd
  cases s with
  | sc k m c =>
    refine ⟨by simp, fun d hd => ?_⟩
    simp only [List.mem_cons, List.not_mem_nil, or_false] at hd
    rcases hd with rfl | rfl | rfl | rfl
    · exact strOk_sc
    all_goals exact True.intro
  | ev m =>
    refine ⟨by simp, fun d hd => ?_⟩
    simp only [List.mem_cons, List.not_mem_nil, or_false] at hd
    rcases hd with rfl | rfl
    · exact strOk_ev
    · exact True.intro
end
/-! what stood in H0, or is new since H -/
open Classical in
noncomputable def cutH (H H0 Hf : Hp) : Hp := fun a => if H a ≠ none ∧ H0 a = none then none else Hf a
section
variable {H H0 Hf G : Hp} {a : Addr} {o : HO}
theorem cut_sub : Same (cutH H H0 Hf) Hf := fun a o h => by
  unfold cutH at h
  split at h
  · cases h
  · exact h
theorem cut_new (h : H a = none) (e : Hf a = some o) : cutH H H0 Hf a = some o := by
  unfold cutH
  rw [if_neg (fun z => z.1 h)]
  exact e
theorem cut_old (h : Same H0 Hf) : Same H0 (cutH H H0 Hf) := fun a o e => by
  unfold cutH
  rw [if_neg (fun z => by rw [z.2] at e; cases e)]
  exact h _ _ e
theorem cut_le (h : Same G Hf) (hd : ∀ a, G a ≠ none → H0 a ≠ none ∨ H a = none) : Same G (cutH H H0 Hf) := fun a o e => by
  unfold cutH
  rw [if_neg]
  · exact h _ _ e
  · rintro ⟨z1, z2⟩
    rcases hd a (by rw [e]; simp) with h1 | h1
    · exact h1 z2
    · exact z1 h1
/-- a later cut from a later heap -/
theorem cut_cut {H2 Hg : Hp} (e : Same H H2) (e2 : Same Hg Hf) : Same (cutH H2 H0 Hg) (cutH H H0 Hf) := by
  refine cut_le (cut_sub.trans e2) fun a h => ?_
  unfold cutH at h
  split at h
  · exact absurd rfl h
  · rename_i hn
    by_cases h0 : H0 a = none
    · right
      cases hh : H a with
      | none => rfl
      | some o => exact absurd ⟨by rw [e _ _ hh]; simp, h0⟩ hn
    · exact .inl h0
theorem cut_self : cutH H H Hf = Hf := by
  funext a
  unfold cutH
  rw [if_neg (fun z => z.1 z.2)]
theorem cut_none {H2 : Hp} (h1 : H2 a ≠ none) (h0 : H0 a = none) : cutH H2 H0 Hf a = none := by
  unfold cutH; rw [if_pos ⟨h1, h0⟩]
theorem cut_weak : Same (cutH H (fun _ => none) Hf) (cutH H H0 Hf) := cut_le cut_sub fun a h => by
  unfold cutH at h
  split at h
  · exact absurd rfl h
  · rename_i hn
    right
    cases hh : H a with
    | none => rfl
    | some o => exact absurd ⟨by rw [hh]; simp, rfl⟩ hn
end
section
variable {X : Cx} {K : PySem.W.Frag} {H : Hp} {Q : VK}
theorem kisiT (K : PySem.W.Frag) (h : X.K = K := by rfl) : CallR X (.builtin "isinstance") (rIsiT K) := by subst h; exact call_isiT
theorem krepT (K : PySem.W.Frag) (h : X.K = K := by rfl) : OpR X (binaryOp .Mult) (rRepT K) := by subst h; exact op_repT
theorem r_isi2 {v : V} {d : PyData} {tp : Addr} {b : Bool} (h : Dp K H v d) (ht : H tp = some (.tup [.ty "tuple", .ty "list"])) (e : PySem.W.kitAny K (.type (tyD d)) [.type "tuple", .type "list"] = some b) (q : Q (.bl b) H) : rIsiT K [v, .ref tp] H Q :=
  ⟨v, tp, _, _, _, b, rfl, ht, .cons (.ty _) (.cons (.ty _) .nil), Dp.ty h, e, q⟩
end
theorem kAny_seq {K : PySem.W.Frag} (t : String) (h : t = "tuple" ∨ t = "list") : PySem.W.kitAny K (.type t) [.type "tuple", .type "list"] = some true := by
  rcases h with rfl | rfl
  · exact kitAny_cons (b := true) (kit_ty kB_tuple_tuple) (fun z => by cases z) (fun _ => rfl)
  · exact kitAny_cons (b := false) (kit_ty kB_list_tuple) (fun _ => kitAny_cons (b := true) (kit_ty kB_list_list) (fun z => by cases z) (fun _ => rfl)) (fun z => by cases z)
theorem kAny_no {K : PySem.W.Frag} (t : String) (h1 : kitB t "tuple" = some false) (h2 : kitB t "list" = some false) : PySem.W.kitAny K (.type t) [.type "tuple", .type "list"] = some false :=
  kitAny_cons (b := false) (kit_ty h1) (fun _ => kitAny_cons (b := false) (kit_ty h2) (fun _ => rfl) (fun z => by cases z)) (fun z => by cases z)
section
variable {X : Cx} {st : Stmt} {t : TS} {D : Ends} {σ : St} {H : Hp}
def tHalt (t : TS) : TS := t
theorem ps_halt (h : PS X st t) : PS X st (tHalt t) := h
theorem s_haltC (I : St → Hp → Prop) (h1 : ∀ N : St → Hp → Prop, (∀ σ' H', I σ' H' → N σ' H') → t { D with nx := N } σ H) (h2 : ∀ σ' H', I σ' H' → D.nx σ' H') : tHalt t D σ H := h1 D.nx h2
end
theorem cut_set {H H0 Hc H2 : Hp} {p : Addr} {o : HO} (e : Same H Hc) (hp : Hc p ≠ none) (h0 : H0 p = none) : Same (cutH Hc H0 H2) (cutH H H0 (L2.upd H2 p o)) := by
  refine cut_le (Same.upN cut_sub (cut_none hp h0)) fun a h => ?_
  unfold cutH at h
  split at h
  · exact absurd rfl h
  · rename_i hn
    by_cases h0 : H0 a = none
    · right
      cases hh : H a with
      | none => rfl
      | some o => exact absurd ⟨by rw [e _ _ hh]; simp, h0⟩ hn
    · exact .inl h0
theorem cutV_mem {xs : List V} {a b : Option Int} {y : V} (h : y ∈ cutV xs a b) : y ∈ xs := by
  unfold cutV at h
  first
    | exact List.mem_of_mem_take (List.mem_of_mem_drop h)
    | exact List.mem_of_mem_drop (List.mem_of_mem_take h)
def scaV : V → Bool
  | .non => true
  | .bl _ => true
  | .int _ => true
  | .str s => PyData.canLay0 (.str s)
  | _ => false
theorem DV.sca {K : PySem.W.Frag} {G : Hp} {n k : Nat} : ∀ {x : V}, scaV x = true → DV K G n k x
  | .non, _ => DV.non
  | .bl b, _ => DV.bl b
  | .int i, _ => DV.int i
  | .str s, h => DV.str h
  | .ref _, h => by cases h
  | .ty _, h => by cases h
  | .byt _, h => by cases h
  | .flt _, h => by cases h
theorem DV.scas {K : PySem.W.Frag} {G : Hp} {n k : Nat} {xs : List V} (h : xs.all scaV = true) : ∀ x ∈ xs, DV K G n k x := fun x hx => DV.sca (List.all_eq_true.mp h x hx)
theorem DV.newT {K : PySem.W.Frag} {H H0 Hf : Hp} {n k : Nat} {p : Addr} {xs : List V} (h : H p = none) (e : Hf p = some (.tup xs)) (hl : xs.length ≤ n) (ha : ∀ x ∈ xs, DV K (cutH H H0 Hf) n k x) : DV K (cutH H H0 Hf) n (k + 1) (.ref p) := DV.tup (SqT.of (cut_new h e)) hl ha
theorem DV.newL {K : PySem.W.Frag} {H H0 Hf : Hp} {n k : Nat} {p : Addr} {xs : List V} (h : H p = none) (e : Hf p = some (.lst xs)) (hl : xs.length ≤ n) (ha : ∀ x ∈ xs, DV K (cutH H H0 Hf) n k x) : DV K (cutH H H0 Hf) n (k + 1) (.ref p) := DV.lst (SqL.of (cut_new h e)) hl ha
theorem DV.sT {K : PySem.W.Frag} {H H0 Hf : Hp} {n k : Nat} {p : Addr} {xs : List V} (h : H p = none) (e : Hf p = some (.tup xs)) (hl : xs.length ≤ n) (ha : xs.all scaV = true) : DV K (cutH H H0 Hf) n (k + 1) (.ref p) := DV.newT h e hl (DV.scas ha)
theorem mem1 {P : V → Prop} {a : V} (h : P a) : ∀ x ∈ [a], P x := fun x hx => by rw [List.mem_singleton.mp hx]; exact h
theorem memC {P : V → Prop} {a : V} {l : List V} (h : P a) (t : ∀ x ∈ l, P x) : ∀ x ∈ a :: l, P x := fun x hx => by
  rcases List.mem_cons.mp hx with rfl | hx
  · exact h
  · exact t x hx
theorem mem0 {P : V → Prop} : ∀ x ∈ ([] : List V), P x := fun x hx => by cases hx
theorem memA {P : V → Prop} {l m : List V} (h : ∀ x ∈ l, P x) (t : ∀ x ∈ m, P x) : ∀ x ∈ l ++ m, P x := fun x hx => by
  rcases List.mem_append.mp hx with hx | hx
  · exact h x hx
  · exact t x hx
theorem r_p30 {H : Hp} {Q : VK} (h : Q (.int 1000000000000000000000000000000) H) : rI CPow (fun i j => .int (i ^ j.toNat)) (.int 10) (.int 30) H Q := ⟨10, 30, rfl, rfl, ⟨by decide, by decide, by decide⟩, h⟩
/-- the list that grows in _law_odd -/
def OddI (K : PySem.W.Frag) (H : Hp) (q : Addr) (m : Nat) (σ' : St) (H' : Hp) : Prop := ∃ p xs, Same H H' ∧ H' p = some (.lst xs) ∧ xs.length = m ∧ (∀ x ∈ xs, DV K (cutH H (fun _ => none) H') 4 2 x) ∧ σ' = [some (.ref q), some (.ref p)]
theorem dvs_same {K : PySem.W.Frag} {H H0 H1 H2 : Hp} {n k : Nat} {xs : List V} (e : Same H1 H2) (h : ∀ x ∈ xs, DV K (cutH H H0 H1) n k x) : ∀ x ∈ xs, DV K (cutH H H0 H2) n k x := fun x hx => DV.same (cut_cut (Same.refl _) e) (h x hx)
theorem two_le {ns : List Int} (h : 2 ≤ ns.length) : ∃ a b ms, ns = a :: b :: ms := by
  cases ns with
  | nil => simp at h
  | cons a r =>
    cases r with
    | nil => simp at h
    | cons b ms => exact ⟨a, b, ms, rfl⟩
theorem three_le {ns : List Int} (h : 3 ≤ ns.length) : ∃ a b c ms, ns = a :: b :: c :: ms := by
  obtain ⟨a, b, ms, rfl⟩ := two_le (ns := ns) (by omega)
  cases ms with
  | nil => simp at h
  | cons c ms => exact ⟨a, b, c, ms, rfl⟩
theorem r_ixM {K : PySem.W.Frag} {H : Hp} {Q : VK} {a : Addr} {xs : List V} {i : Int} (h : SqL K H a xs) (h0 : 0 ≤ i) (hn : i < xs.length) (q : ∀ v, v ∈ xs → Q v H) : rIxL K (.ref a) (.int i) H Q := by
  obtain ⟨n, rfl⟩ := Int.eq_ofNat_of_zero_le h0
  have hx : n < xs.length := by omega
  exact r_ixL h (atI_nat (j := n) (List.getElem?_eq_getElem hx)) (q _ (List.getElem_mem hx))
/-- the pieces that grow in _law_spoilt -/
def SpI (K : PySem.W.Frag) (H H0 : Hp) (n j : Nat) (v : V) (q : Addr) (i t : Int) (σ' : St) (H' : Hp) : Prop := ∃ l ys, Same H H' ∧ H l = none ∧ H' l = some (.lst ys) ∧ ys.length ≤ n + 1 ∧ (∀ y ∈ ys, DV K (cutH H H0 H') (n + 1) (j + 2) y) ∧ σ' = [some v, some (.ref q), some (.ref l), some (.int i), some (.int t)]
theorem memTk {P : V → Prop} {l : List V} {m : Nat} (h : ∀ x ∈ l, P x) : ∀ x ∈ l.take m, P x := fun x hx => h x (List.mem_of_mem_take hx)
theorem memDr {P : V → Prop} {l : List V} {m : Nat} (h : ∀ x ∈ l, P x) : ∀ x ∈ l.drop m, P x := fun x hx => h x (List.mem_of_mem_drop hx)
theorem memSet {P : V → Prop} {l : List V} {m : Nat} {y : V} (h : ∀ x ∈ l, P x) (hy : P y) : ∀ x ∈ l.set m y, P x := fun x hx => by
  rcases List.mem_or_eq_of_mem_set hx with hx | rfl
  · exact h x hx
  · exact hy
theorem memV {P : V → Prop} {l : List V} {a b : Option Int} (h : ∀ x ∈ l, P x) : ∀ x ∈ cutV l a b, P x := fun x hx => h x (cutV_mem hx)
theorem cut_lens (xs : List V) (m : Nat) (h : m < xs.length) : (cutV xs none (some (m : Int))).length = m ∧ (cutV xs (some (m : Int)) none).length = xs.length - m ∧ (cutV xs none (some ((m : Int) + 1))).length = m + 1 ∧ (cutV xs (some ((m : Int) + 1)) none).length = xs.length - (m + 1) := by
  have e : ((m : Int) + 1).toNat = m + 1 := by omega
  rw [cut_to' _ (by omega), cut_from' _ (by omega), cut_to' _ (by omega), cut_from' _ (by omega), e, Int.toNat_natCast, List.length_take, List.length_take, List.length_drop, List.length_drop]
  omega
theorem cut_setS {H H0 Hc H2 : Hp} {p : Addr} {o o' : HO} (e : Same H Hc) (hp : Hc p = some o') (h0 : H0 p = none) : Same (cutH Hc H0 H2) (cutH H H0 (L2.upd H2 p o)) := cut_set e (by rw [hp]; simp) h0
/-- a list of data that grows -/
def GrI (K : PySem.W.Frag) (H : Hp) (n k m : Nat) (f : Addr → St) (σ' : St) (H' : Hp) : Prop := ∃ p xs, Same H H' ∧ H' p = some (.lst xs) ∧ xs.length = m ∧ (∀ x ∈ xs, DV K H' n k x) ∧ σ' = f p
theorem dvm {K : PySem.W.Frag} {H1 H2 : Hp} {n k : Nat} {xs : List V} (e : Same H1 H2) (h : ∀ x ∈ xs, DV K H1 n k x) : ∀ x ∈ xs, DV K H2 n k x := fun x hx => DV.same e (h x hx)
theorem dvn {K : PySem.W.Frag} {H1 H2 : Hp} {n k n' k' : Nat} {xs : List V} (e : Same H1 H2) (h : ∀ x ∈ xs, DV K H1 n k x) (hn : n ≤ n') (hk : k ≤ k') : ∀ x ∈ xs, DV K H2 n' k' x := fun x hx => DV.mono hn hk (DV.same e (h x hx))
theorem DV.t {K : PySem.W.Frag} {H : Hp} {n k : Nat} {p : Addr} {xs : List V} (e : H p = some (.tup xs)) (hl : xs.length ≤ n) (ha : ∀ x ∈ xs, DV K H n k x) : DV K H n (k + 1) (.ref p) := DV.tup (SqT.of e) hl ha
theorem DV.tS {K : PySem.W.Frag} {H : Hp} {n k : Nat} {p : Addr} {xs : List V} (e : H p = some (.tup xs)) (hl : xs.length ≤ n) (ha : xs.all scaV = true) : DV K H n (k + 1) (.ref p) := DV.t e hl (DV.scas ha)
theorem DV.lS {K : PySem.W.Frag} {H : Hp} {n k : Nat} {p : Addr} {xs : List V} (e : H p = some (.lst xs)) (hl : xs.length ≤ n) (ha : xs.all scaV = true) : DV K H n (k + 1) (.ref p) := DV.lst (SqL.of e) hl (DV.scas ha)
theorem fl_seq {K : PySem.W.Frag} {a : Addr} {xs : List V} {g : TG} {tb : TS} {D : Ends} {σ : St} {H H0 : Hp} (hS : SqL K H0 a xs) (hL : H0 a = some (.lst xs)) (Pv : Nat → St → Hp → Prop) (h0 : Pv 0 σ H) (hk : ∀ i σ' H', Pv i σ' H' → Same H0 H')
    (hs : ∀ i x σ' H', i < xs.length → x ∈ xs → Pv i σ' H' → g x σ' H' fun σ2 H2 => tb { D with nx := Pv (i + 1), ct := Pv (i + 1), bk := D.nx } σ2 H2) (hd : ∀ σ' H', Pv xs.length σ' H' → D.nx σ' H') : FLoop (Itl K a) g tb D σ H :=
  fl_list Pv h0 (fun i σ' H' _ h => SqL.of (hk i σ' H' h _ _ hL)) (fun i x σ' H' e h => hs i x σ' H' (List.getElem?_eq_some_iff.mp e).1 (List.mem_of_getElem? e) h) hd
theorem r_repT {K : PySem.W.Frag} {H : Hp} {Q : VK} {a : Addr} {xs : List V} {k : Int} (h : SqT K H a xs) (hne : xs ≠ []) (h1 : 2 ≤ k ∧ k ≤ 1000) (hz : xs.length ≤ 1000) (q : ∀ p, H p = none → Q (.ref p) (L2.upd H p (.tup (List.replicate k.toNat xs).flatten))) : rRepT K (.ref a) (.int k) H Q :=
  ⟨a, k, xs, rfl, rfl, h, hne, h1.1, h1.2, hz, q⟩
theorem memRep {P : V → Prop} {l : List V} {m : Nat} (h : ∀ x ∈ l, P x) : ∀ x ∈ (List.replicate m l).flatten, P x := fun x hx => by
  obtain ⟨l', h1, h2⟩ := List.mem_flatten.mp hx
  rw [(List.mem_replicate.mp h1).2] at h2
  exact h x h2
theorem pipe_dvs {K : PySem.W.Frag} {H : Hp} {xs : List V} {p : Pipe} (h : Paired (StepAt K H) xs p) : ∀ x ∈ xs, DV K H 6 1 x := fun x hx => by
  obtain ⟨i, hi⟩ := List.getElem?_of_mem hx
  obtain ⟨s, hs, r⟩ := Paired.get h hi
  refine ⟨s.data, r.dp, ?_⟩
  cases s with
  | sc k m c =>
    refine ⟨by simp, fun d hd => ?_⟩
    simp only [List.mem_cons, List.not_mem_nil, or_false] at hd
    rcases hd with rfl | rfl | rfl | rfl
    · exact strOk_sc
    all_goals exact True.intro
  | ev m =>
    refine ⟨by simp, fun d hd => ?_⟩
    simp only [List.mem_cons, List.not_mem_nil, or_false] at hd
    rcases hd with rfl | rfl
    · exact strOk_ev
    · exact True.intro
theorem fl_seqS {K : PySem.W.Frag} {a : Addr} {xs : List V} {g : TG} {tb : TS} {D : Ends} {σ : St} {H : Hp} (hL : H a = some (.lst xs)) (S : St → Prop) (h0 : S σ)
    (hs : ∀ x σ' H', x ∈ xs → Same H H' → S σ' → g x σ' H' fun σ2 H2 => tb { D with nx := fun σ3 H3 => Same H H3 ∧ S σ3, ct := fun σ3 H3 => Same H H3 ∧ S σ3, bk := D.nx } σ2 H2) (hd : ∀ σ' H', Same H H' → S σ' → D.nx σ' H') : FLoop (Itl K a) g tb D σ H :=
  fl_seq (SqL.of hL) hL (fun _ σ' H' => Same H H' ∧ S σ') ⟨Same.refl _, h0⟩ (fun _ _ _ h => h.1) (fun _ x σ' H' _ hx h => hs x σ' H' hx h.1 h.2) fun σ' H' h => hd σ' H' h.1 h.2
end My

namespace My
open PySem L2
def topS (i : Nat) : Stmt := PySem.Challenge.pw_stepscale_k01_steps_and_pipelines_recogn.main.body.getD i (.Pass ⟨0, 0, 0, 0⟩)
section
variable {P : Program} {w : World} {K : PySem.W.Frag} {mg : Str → Option Value} {base : Heap}
abbrev s_is_integer : Stmt := topS 4
abbrev n_is_integer : List Str := ["value", "low", "high"]
theorem sc_is_integer : FnScope n_is_integer ["value", "low", "high"] (defScope s_is_integer) := ⟨rfl, rfl, rfl, by decide +kernel, rfl, by decide +kernel, by decide +kernel⟩
def sp_is_integer (K : PySem.W.Frag) : Sp := fun vs H Q _ => ∃ v lo hi d, vs = [v, .int lo, .int hi] ∧ Dp K H v d ∧ ∀ H', Same H H' → Q (.bl (isIntD d lo hi)) H'
theorem sp_is_integer_len {vs H Q E} (h : sp_is_integer K vs H Q E) : vs.length = 3 := by obtain ⟨v, lo, hi, d, rfl, _⟩ := h; rfl
theorem u_is_integer {v : V} {d : PyData} {lo hi : Int} {H : Hp} {Q : VK} {E : XK} (h : Dp K H v d) (k : ∀ H', Same H H' → Q (.bl (isIntD d lo hi)) H') : sp_is_integer K [v, .int lo, .int hi] H Q E := ⟨v, lo, hi, d, rfl, h, k⟩
abbrev s_is_step : Stmt := topS 5
abbrev n_is_step : List Str := ["value"]
theorem sc_is_step : FnScope n_is_step ["value"] (defScope s_is_step) := ⟨rfl, rfl, rfl, by decide +kernel, rfl, by decide +kernel, by decide +kernel⟩
def sp_is_step (K : PySem.W.Frag) : Sp := fun vs H Q _ => ∃ v d, vs = [v] ∧ Dp K H v d ∧ SeqAt.shaped d = true ∧ ∀ H', Same H H' → Q (.bl (isStepD d)) H'
theorem sp_is_step_len {vs H Q E} (h : sp_is_step K vs H Q E) : vs.length = 1 := by obtain ⟨v, d, rfl, _⟩ := h; rfl
theorem u_is_step {v : V} {d : PyData} {H : Hp} {Q : VK} {E : XK} (h : Dp K H v d) (s : SeqAt.shaped d = true) (k : ∀ H', Same H H' → Q (.bl (isStepD d)) H') : sp_is_step K [v] H Q E := ⟨v, d, rfl, h, s, k⟩
abbrev s_step_period : Stmt := topS 6
abbrev n_step_period : List Str := ["step", "m"]
theorem sc_step_period : FnScope n_step_period ["step"] (defScope s_step_period) := ⟨rfl, rfl, rfl, by decide +kernel, rfl, by decide +kernel, by decide +kernel⟩
def sp_step_period (K : PySem.W.Frag) : Sp := fun vs H Q _ => ∃ v s, vs = [v] ∧ StepAt K H v s ∧ s.pos ∧ ∀ p H', Same H H' → SqT K H' p [.int s.per, .int s.rise] → Q (.ref p) H'
theorem sp_step_period_len {vs H Q E} (h : sp_step_period K vs H Q E) : vs.length = 1 := by obtain ⟨v, s, rfl, _⟩ := h; rfl
theorem u_step_period {v : V} {s : Step} {H : Hp} {Q : VK} {E : XK} (h : StepAt K H v s) (p : s.pos) (k : ∀ p H', Same H H' → SqT K H' p [.int s.per, .int s.rise] → Q (.ref p) H') : sp_step_period K [v] H Q E := ⟨v, s, rfl, h, p, k⟩
abbrev s_is_pipeline : Stmt := topS 7
abbrev n_is_pipeline : List Str := ["value", "step", "product"]
theorem sc_is_pipeline : FnScope n_is_pipeline ["value"] (defScope s_is_pipeline) := ⟨rfl, rfl, rfl, by decide +kernel, rfl, by decide +kernel, by decide +kernel⟩
def sp_is_pipeline (K : PySem.W.Frag) : Sp := fun vs H Q _ => ∃ v d, vs = [v] ∧ Dp K H v d ∧ SeqAt.shaped d = true ∧ ∀ H', Same H H' → Q (.bl (isPipeD d)) H'
theorem sp_is_pipeline_len {vs H Q E} (h : sp_is_pipeline K vs H Q E) : vs.length = 1 := by obtain ⟨v, d, rfl, _⟩ := h; rfl
theorem u_is_pipeline {v : V} {d : PyData} {H : Hp} {Q : VK} {E : XK} (h : Dp K H v d) (s : SeqAt.shaped d = true) (k : ∀ H', Same H H' → Q (.bl (isPipeD d)) H') : sp_is_pipeline K [v] H Q E := ⟨v, d, rfl, h, s, k⟩
theorem u_is_pipelineQ {v : V} {p : Pipe} {H : Hp} {Q : VK} {E : XK} (h : PipeAt K H v p) (k : ∀ H', Same H H' → Q (.bl (isPipeD (pipeD p))) H') : sp_is_pipeline K [v] H Q E :=
  ⟨v, pipeD p, rfl, h.dp, shaped_pipe p, k⟩
theorem u_is_pipelineP {v : V} {p : Pipe} {H : Hp} {Q : VK} {E : XK} (h : PipeAt K H v p) (ok : p.ok) (k : ∀ H', Same H H' → Q (.bl true) H') : sp_is_pipeline K [v] H Q E :=
  ⟨v, pipeD p, rfl, h.dp, shaped_pipe p, fun H' hs => by rw [isPipeD_pipe.mpr ok]; exact k H' hs⟩
abbrev s_law_cell_at : Stmt := topS 9
abbrev n_law_cell_at : List Str := ["script", "k"]
theorem sc_law_cell_at : FnScope n_law_cell_at ["script", "k"] (defScope s_law_cell_at) := ⟨rfl, rfl, rfl, by decide +kernel, rfl, by decide +kernel, by decide +kernel⟩
def sp_law_cell_at (K : PySem.W.Frag) : Sp := fun vs H Q _ => ∃ (a : Addr) (ns : List Int) (k : Int), vs = [.ref a, .int k] ∧ SqL K H a (ns.map V.int) ∧ 0 ≤ k ∧ ∀ r H', Same H H' → Q (.int r) H'
theorem sp_law_cell_at_len {vs H Q E} (h : sp_law_cell_at K vs H Q E) : vs.length = 2 := by obtain ⟨a, ns, k, rfl, _⟩ := h; rfl
theorem u_law_cell_at {a : Addr} {ns : List Int} {x : Int} {H : Hp} {Q : VK} {E : XK} (h : SqL K H a (ns.map V.int)) (b : 0 ≤ x) (k : ∀ r H', Same H H' → Q (.int r) H') : sp_law_cell_at K [.ref a, .int x] H Q E := ⟨a, ns, x, rfl, h, b, k⟩
abbrev s_law_draws : Stmt := topS 10
abbrev n_law_draws : List Str := ["cell", "many", "size", "found", "rest", "stirred", "k"]
theorem sc_law_draws : FnScope n_law_draws ["cell", "many", "size"] (defScope s_law_draws) := ⟨rfl, rfl, rfl, by decide +kernel, rfl, by decide +kernel, by decide +kernel⟩
def sp_law_draws (K : PySem.W.Frag) : Sp := fun vs H Q _ => ∃ (c : Int), vs = [.int c, .int 400, .int 1000] ∧ ∀ q (ds : List Int) H', Same H H' → H q = none → H' q = some (.lst (ds.map V.int)) → ds.length = 400 → (∀ z ∈ ds, 0 ≤ z) → Q (.ref q) H'
theorem sp_law_draws_len {vs H Q E} (h : sp_law_draws K vs H Q E) : vs.length = 3 := by obtain ⟨a, rfl, _⟩ := h; rfl
theorem u_law_draws {c : Int} {H : Hp} {Q : VK} {E : XK} (k : ∀ q (ds : List Int) H', Same H H' → H q = none → H' q = some (.lst (ds.map V.int)) → ds.length = 400 → (∀ z ∈ ds, 0 ≤ z) → Q (.ref q) H') : sp_law_draws K [.int c, .int 400, .int 1000] H Q E := ⟨c, rfl, k⟩
abbrev s_law_spoilt : Stmt := topS 11
abbrev n_law_spoilt : List Str := ["thing", "picks", "pieces", "at", "turn_by"]
theorem sc_law_spoilt : FnScope n_law_spoilt ["thing", "picks"] (defScope s_law_spoilt) := ⟨rfl, rfl, rfl, by decide +kernel, rfl, by decide +kernel, by decide +kernel⟩
def spS (K : PySem.W.Frag) : Nat → Sp
  | 0 => fun _ _ _ _ => False
  | k + 1 => fun vs H Q _ => ∃ (v : V) (q : Addr) (ns : List Int) (H0 : Hp) (n j : Nat), vs = [v, .ref q] ∧ SqL K H q (ns.map V.int) ∧ 20 + 4 * k ≤ ns.length ∧ Same H0 H ∧ (4 ≤ n ∧ n ≤ 1000) ∧ j ≤ k ∧ DV K H0 n j v ∧ ∀ v' H', Same H H' → DV K (cutH H H0 H') (n + 1) (j + 2) v' → Q v' H'
theorem spS_len {k : Nat} {vs H Q E} (h : spS K k vs H Q E) : vs.length = 2 := by
  cases k with
  | zero => exact h.elim
  | succ k => obtain ⟨v, q, ns, H0, n, j, rfl, _⟩ := h; rfl
def sp_law_spoilt (K : PySem.W.Frag) : Sp := spS K 5
theorem u_law_spoilt {v : V} {q : Addr} {ns : List Int} {n j : Nat} {H : Hp} {Q : VK} {E : XK} (h : SqL K H q (ns.map V.int)) (hl : 40 ≤ ns.length) (hn : 4 ≤ n ∧ n ≤ 1000) (hj : j ≤ 4) (hv : DV K H n j v) (k : ∀ v' H', Same H H' → DV K H' (n + 1) (j + 2) v' → Q v' H') : sp_law_spoilt K [v, .ref q] H Q E :=
  ⟨v, q, ns, H, n, j, rfl, h, (by show 20 + 4 * 4 ≤ ns.length; omega), Same.refl _, hn, hj, hv, fun v' H' hs hd => k v' H' hs (by rw [cut_self] at hd; exact hd)⟩
abbrev s_law_from : Stmt := topS 12
abbrev n_law_from : List Str := ["thing", "least", "top"]
theorem sc_law_from : FnScope n_law_from ["thing", "least", "top"] (defScope s_law_from) := ⟨rfl, rfl, rfl, by decide +kernel, rfl, by decide +kernel, by decide +kernel⟩
def sp_law_from (K : PySem.W.Frag) : Sp := fun vs H Q _ => ∃ v lo hi d, vs = [v, .int lo, .int hi] ∧ Dp K H v d ∧ ∀ H', Same H H' → Q (.bl (isIntD d lo hi)) H'
theorem sp_law_from_len {vs H Q E} (h : sp_law_from K vs H Q E) : vs.length = 3 := by obtain ⟨v, lo, hi, d, rfl, _⟩ := h; rfl
theorem u_law_from {v : V} {d : PyData} {lo hi : Int} {H : Hp} {Q : VK} {E : XK} (h : Dp K H v d) (k : ∀ H', Same H H' → Q (.bl (isIntD d lo hi)) H') : sp_law_from K [v, .int lo, .int hi] H Q E := ⟨v, lo, hi, d, rfl, h, k⟩
abbrev s_law_bag : Stmt := topS 13
abbrev n_law_bag : List Str := ["script", "k"]
theorem sc_law_bag : FnScope n_law_bag ["script", "k"] (defScope s_law_bag) := ⟨rfl, rfl, rfl, by decide +kernel, rfl, by decide +kernel, by decide +kernel⟩
def sp_law_bag (K : PySem.W.Frag) : Sp := fun vs H Q _ => ∃ (a : Addr) (ns : List Int) (k : Int), vs = [.ref a, .int k] ∧ SqL K H a (ns.map V.int) ∧ 0 ≤ k ∧ ∀ b d H', Same H H' → H b = none → H d = none → BagAt H' b d → Q (.ref b) H'
theorem sp_law_bag_len {vs H Q E} (h : sp_law_bag K vs H Q E) : vs.length = 2 := by obtain ⟨a, ns, k, rfl, _⟩ := h; rfl
theorem u_law_bag {a : Addr} {ns : List Int} {x : Int} {H : Hp} {Q : VK} {E : XK} (h : SqL K H a (ns.map V.int)) (b : 0 ≤ x) (k : ∀ b d H', Same H H' → H b = none → H d = none → BagAt H' b d → Q (.ref b) H') : sp_law_bag K [.ref a, .int x] H Q E := ⟨a, ns, x, rfl, h, b, k⟩
abbrev s_law_bags : Stmt := topS 14
abbrev n_law_bags : List Str := ["script", "limit", "k"]
theorem sc_law_bags : FnScope n_law_bags ["script", "limit"] (defScope s_law_bags) := ⟨rfl, rfl, rfl, by decide +kernel, rfl, by decide +kernel, by decide +kernel⟩
def sp_law_bags (K : PySem.W.Frag) : Sp := fun vs H Q _ => ∃ (a : Addr) (ns : List Int) (l : Int), vs = [.ref a, .int l] ∧ SqL K H a (ns.map V.int) ∧ l ≤ 10 ∧ ∀ q bs H', Same H H' → H q = none → BagsAt H' q bs → Q (.ref q) H'
theorem sp_law_bags_len {vs H Q E} (h : sp_law_bags K vs H Q E) : vs.length = 2 := by obtain ⟨a, ns, k, rfl, _⟩ := h; rfl
theorem u_law_bags {a : Addr} {ns : List Int} {x : Int} {H : Hp} {Q : VK} {E : XK} (h : SqL K H a (ns.map V.int)) (b : x ≤ 10) (k : ∀ q bs H', Same H H' → H q = none → BagsAt H' q bs → Q (.ref q) H') : sp_law_bags K [.ref a, .int x] H Q E := ⟨a, ns, x, rfl, h, b, k⟩
abbrev s_law_take : Stmt := topS 15
abbrev n_law_take : List Str := ["bag", "many"]
theorem sc_law_take : FnScope n_law_take ["bag", "many"] (defScope s_law_take) := ⟨rfl, rfl, rfl, by decide +kernel, rfl, by decide +kernel, by decide +kernel⟩
def sp_law_take (K : PySem.W.Frag) : Sp := fun vs H Q _ => ∃ (b d : Addr) (m : Int), vs = [.ref b, .int m] ∧ BagAt H b d ∧ 0 < m ∧ ∀ r H', Bs K b d H H' → 0 ≤ r → r < m → Q (.int r) H'
theorem sp_law_take_len {vs H Q E} (h : sp_law_take K vs H Q E) : vs.length = 2 := by obtain ⟨a, d, m, rfl, _⟩ := h; rfl
theorem u_law_take {b d : Addr} {m : Int} {H : Hp} {Q : VK} {E : XK} (h : BagAt H b d) (o : 0 < m) (k : ∀ r H', Bs K b d H H' → 0 ≤ r → r < m → Q (.int r) H') : sp_law_take K [.ref b, .int m] H Q E := ⟨b, d, m, rfl, h, o, k⟩
abbrev s_law_far_draw : Stmt := topS 16
abbrev n_law_far_draw : List Str := ["bag", "many", "found", "much"]
theorem sc_law_far_draw : FnScope n_law_far_draw ["bag", "many"] (defScope s_law_far_draw) := ⟨rfl, rfl, rfl, by decide +kernel, rfl, by decide +kernel, by decide +kernel⟩
def sp_law_far_draw (K : PySem.W.Frag) : Sp := fun vs H Q _ => ∃ (b d : Addr) (m : Int), vs = [.ref b, .int m] ∧ BagAt H b d ∧ 0 < m ∧ ∀ r H', Bs K b d H H' → 0 ≤ r → r < m → Q (.int r) H'
theorem sp_law_far_draw_len {vs H Q E} (h : sp_law_far_draw K vs H Q E) : vs.length = 2 := by obtain ⟨a, d, m, rfl, _⟩ := h; rfl
theorem u_law_far_draw {b d : Addr} {m : Int} {H : Hp} {Q : VK} {E : XK} (h : BagAt H b d) (o : 0 < m) (k : ∀ r H', Bs K b d H H' → 0 ≤ r → r < m → Q (.int r) H') : sp_law_far_draw K [.ref b, .int m] H Q E := ⟨b, d, m, rfl, h, o, k⟩
abbrev s_law_odd : Stmt := topS 17
abbrev n_law_odd : List Str := ["picks", "odd"]
theorem sc_law_odd : FnScope n_law_odd ["picks"] (defScope s_law_odd) := ⟨rfl, rfl, rfl, by decide +kernel, rfl, by decide +kernel, by decide +kernel⟩
def sp_law_odd (K : PySem.W.Frag) : Sp := fun vs H Q _ => ∃ (q : Addr) (ns : List Int), vs = [.ref q] ∧ SqL K H q (ns.map V.int) ∧ 2 ≤ ns.length ∧ ∀ v' H', Same H H' → DV K (cutH H (fun _ => none) H') 4 2 v' → Q v' H'
theorem sp_law_odd_len {vs H Q E} (h : sp_law_odd K vs H Q E) : vs.length = 1 := by obtain ⟨q, ns, rfl, _⟩ := h; rfl
theorem u_law_odd {q : Addr} {ns : List Int} {H : Hp} {Q : VK} {E : XK} (h : SqL K H q (ns.map V.int)) (hl : 2 ≤ ns.length) (k : ∀ v' H', Same H H' → DV K (cutH H (fun _ => none) H') 4 2 v' → Q v' H') : sp_law_odd K [.ref q] H Q E := ⟨q, ns, rfl, h, hl, k⟩
abbrev s_law_step_period : Stmt := topS 18
abbrev n_law_step_period : List Str := ["step"]
theorem sc_law_step_period : FnScope n_law_step_period ["step"] (defScope s_law_step_period) := ⟨rfl, rfl, rfl, by decide +kernel, rfl, by decide +kernel, by decide +kernel⟩
def sp_law_step_period (K : PySem.W.Frag) : Sp := fun vs H Q _ => ∃ v s, vs = [v] ∧ StepAt K H v s ∧ s.pos ∧ ∀ H', Same H H' → Q (.int s.per) H'
theorem sp_law_step_period_len {vs H Q E} (h : sp_law_step_period K vs H Q E) : vs.length = 1 := by obtain ⟨v, s, rfl, _⟩ := h; rfl
theorem u_law_step_period {v : V} {s : Step} {H : Hp} {Q : VK} {E : XK} (h : StepAt K H v s) (p : s.pos) (k : ∀ H', Same H H' → Q (.int s.per) H') : sp_law_step_period K [v] H Q E := ⟨v, s, rfl, h, p, k⟩
abbrev s_law_step : Stmt := topS 19
abbrev n_law_step : List Str := ["bag", "limit", "m", "k", "far", "c"]
theorem sc_law_step : FnScope n_law_step ["bag", "limit"] (defScope s_law_step) := ⟨rfl, rfl, rfl, by decide +kernel, rfl, by decide +kernel, by decide +kernel⟩
def sp_law_step (K : PySem.W.Frag) : Sp := fun vs H Q _ => ∃ (b d : Addr) (l : Int), vs = [.ref b, .int l] ∧ BagAt H b d ∧ (1 ≤ l ∧ l ≤ 120) ∧ ∀ v s H', Bs K b d H H' → StepAt K H' v s → s.ok → (∀ k m c, s = .sc k m c → m ≤ l) → Q v H'
theorem sp_law_step_len {vs H Q E} (h : sp_law_step K vs H Q E) : vs.length = 2 := by obtain ⟨a, d, m, rfl, _⟩ := h; rfl
theorem u_law_step {b d : Addr} {l : Int} {H : Hp} {Q : VK} {E : XK} (h : BagAt H b d) (o : 1 ≤ l ∧ l ≤ 120) (k : ∀ v s H', Bs K b d H H' → StepAt K H' v s → s.ok → (∀ k m c, s = .sc k m c → m ≤ l) → Q v H') : sp_law_step K [.ref b, .int l] H Q E := ⟨b, d, l, rfl, h, o, k⟩
abbrev s_law_pipeline : Stmt := topS 20
abbrev n_law_pipeline : List Str := ["bag", "most", "limit", "found", "left", "turn", "step"]
theorem sc_law_pipeline : FnScope n_law_pipeline ["bag", "most", "limit"] (defScope s_law_pipeline) := ⟨rfl, rfl, rfl, by decide +kernel, rfl, by decide +kernel, by decide +kernel⟩
def sp_law_pipeline (K : PySem.W.Frag) : Sp := fun vs H Q _ => ∃ (b d : Addr) (m l : Int), vs = [.ref b, .int m, .int l] ∧ BagAt H b d ∧ (0 ≤ m ∧ m ≤ 6) ∧ (1 ≤ l ∧ l ≤ 120) ∧ ∀ (pa : Addr) (p : Pipe) H', Bs K b d H H' → PipeAt K H' (.ref pa) p → (p.length : Int) ≤ m → (∀ s ∈ p, s.ok) → p.prod ≤ l → Q (.ref pa) H'
theorem sp_law_pipeline_len {vs H Q E} (h : sp_law_pipeline K vs H Q E) : vs.length = 3 := by obtain ⟨a, d, m, l, rfl, _⟩ := h; rfl
theorem u_law_pipeline {b d : Addr} {m l : Int} {H : Hp} {Q : VK} {E : XK} (h : BagAt H b d) (o1 : 0 ≤ m ∧ m ≤ 6) (o : 1 ≤ l ∧ l ≤ 120) (k : ∀ (pa : Addr) (p : Pipe) H', Bs K b d H H' → PipeAt K H' (.ref pa) p → (p.length : Int) ≤ m → (∀ s ∈ p, s.ok) → p.prod ≤ l → Q (.ref pa) H') : sp_law_pipeline K [.ref b, .int m, .int l] H Q E := ⟨b, d, m, l, rfl, h, o1, o, k⟩
abbrev s_law_product : Stmt := topS 21
abbrev n_law_product : List Str := ["pipeline", "product", "step"]
theorem sc_law_product : FnScope n_law_product ["pipeline"] (defScope s_law_product) := ⟨rfl, rfl, rfl, by decide +kernel, rfl, by decide +kernel, by decide +kernel⟩
def sp_law_product (K : PySem.W.Frag) : Sp := fun vs H Q _ => ∃ v p, vs = [v] ∧ PipeAt K H v p ∧ p.pos ∧ ∀ H', Same H H' → Q (.int p.prod) H'
theorem sp_law_product_len {vs H Q E} (h : sp_law_product K vs H Q E) : vs.length = 1 := by obtain ⟨v, s, rfl, _⟩ := h; rfl
theorem u_law_product {v : V} {p : Pipe} {H : Hp} {Q : VK} {E : XK} (h : PipeAt K H v p) (o : p.pos) (k : ∀ H', Same H H' → Q (.int p.prod) H') : sp_law_product K [v] H Q E := ⟨v, p, rfl, h, o, k⟩
abbrev s_law_is_step : Stmt := topS 22
abbrev n_law_is_step : List Str := ["value"]
theorem sc_law_is_step : FnScope n_law_is_step ["value"] (defScope s_law_is_step) := ⟨rfl, rfl, rfl, by decide +kernel, rfl, by decide +kernel, by decide +kernel⟩
def sp_law_is_step (K : PySem.W.Frag) : Sp := fun vs H Q _ => ∃ v d, vs = [v] ∧ Dp K H v d ∧ SeqAt.shaped d = true ∧ ∀ H', Same H H' → Q (.bl (isStepD d)) H'
theorem sp_law_is_step_len {vs H Q E} (h : sp_law_is_step K vs H Q E) : vs.length = 1 := by obtain ⟨v, d, rfl, _⟩ := h; rfl
theorem u_law_is_step {v : V} {d : PyData} {H : Hp} {Q : VK} {E : XK} (h : Dp K H v d) (s : SeqAt.shaped d = true) (k : ∀ H', Same H H' → Q (.bl (isStepD d)) H') : sp_law_is_step K [v] H Q E := ⟨v, d, rfl, h, s, k⟩
abbrev s_law_is_pipeline : Stmt := topS 23
abbrev n_law_is_pipeline : List Str := ["value", "step"]
theorem sc_law_is_pipeline : FnScope n_law_is_pipeline ["value"] (defScope s_law_is_pipeline) := ⟨rfl, rfl, rfl, by decide +kernel, rfl, by decide +kernel, by decide +kernel⟩
def sp_law_is_pipeline (K : PySem.W.Frag) : Sp := fun vs H Q _ => ∃ v d, vs = [v] ∧ Dp K H v d ∧ SeqAt.shaped d = true ∧ ∀ H', Same H H' → Q (.bl (isPipeD d)) H'
theorem sp_law_is_pipeline_len {vs H Q E} (h : sp_law_is_pipeline K vs H Q E) : vs.length = 1 := by obtain ⟨v, d, rfl, _⟩ := h; rfl
theorem u_law_is_pipeline {v : V} {d : PyData} {H : Hp} {Q : VK} {E : XK} (h : Dp K H v d) (s : SeqAt.shaped d = true) (k : ∀ H', Same H H' → Q (.bl (isPipeD d)) H') : sp_law_is_pipeline K [v] H Q E := ⟨v, d, rfl, h, s, k⟩
abbrev s_law : Stmt := topS 24
abbrev n_law : List Str := ["script", "bag", "pipeline", "once", "twice", "things", "steps", "step", "thing"]
theorem sc_law : FnScope n_law ["script"] (defScope s_law) := ⟨rfl, rfl, rfl, by decide +kernel, rfl, by decide +kernel, by decide +kernel⟩
def sp_law (K : PySem.W.Frag) : Sp := fun vs H Q _ => ∃ (a : Addr) (ns : List Int), vs = [.ref a] ∧ SqL K H a (ns.map V.int) ∧ ∀ H', Q (.bl true) H'
theorem sp_law_len {vs H Q E} (h : sp_law K vs H Q E) : vs.length = 1 := by obtain ⟨a, ns, rfl, _⟩ := h; rfl
end
set_option hygiene false
local macro_rules | `(tactic| purse 30 => fail) => `(tactic| (first | ((with_reducible refine' r_var ?rdA ?_); (case rdA => rfl)) | ((with_reducible refine' r_c ?_)) | ((with_reducible refine' r_op ?_)) | ((with_reducible refine' r_i0 ?_)) | ((with_reducible refine' r_test ?_)) | ((with_reducible refine' r_exb ?_)) | ((with_reducible refine' r_cons ?_)) | ((with_reducible refine' r_nil ?_)) | ((with_reducible refine' r_can ?_))))
local macro_rules | `(tactic| purse 31 => fail) => `(tactic| (first | ((with_reducible refine' r_can0 ?_)) | ((with_reducible refine' r_cb ?_)) | ((with_reducible refine' r_un ?_)) | ((with_reducible refine' r_u ?_)) | ((with_reducible refine' s_seq ?_)) | ((with_reducible refine' s_next ?_)) | ((with_reducible refine' s_asg ?_)) | ((with_reducible refine' s_name ?_)) | ((with_reducible refine' s_par ?_))))
local macro_rules | `(tactic| purse 32 => fail) => `(tactic| (first | ((with_reducible refine' s_par2 ?_)) | ((with_reducible refine' s_drop ?_)) | ((with_reducible refine' s_ret ?_)) | ((with_reducible refine' s_retN ?_)) | ((with_reducible refine' s_if ?_)) | ((with_reducible refine' r_and ?_)) | ((with_reducible refine' r_or ?_)) | ((with_reducible refine' r_not ?_)) | ((with_reducible refine' r_if ?_))))
local macro_rules | `(tactic| purse 33 => fail) => `(tactic| (first | ((with_reducible refine' r_andV ?_)) | ((with_reducible refine' r_orV ?_)) | ((with_reducible refine' r_notV ?_)) | ((with_reducible refine' r_b ?_)) | ((with_reducible refine' r_chain ?_)) | ((with_reducible refine' r_mul ?rdA ?_); (case rdA => first | (left; constructor <;> omega) | (right; constructor <;> omega) | exact cmul_b)) | ((with_reducible refine' r_div ?rdA ?_); (case rdA => constructor <;> omega)) | ((with_reducible refine' r_mod ?rdA ?_); (case rdA => omega)) | ((with_reducible refine' r_eq ?rdA ?_); (case rdA => rfl))))
local macro_rules | `(tactic| purse 34 => fail) => `(tactic| (first | ((with_reducible refine' r_ne ?rdA ?_); (case rdA => rfl)) | ((with_reducible refine' r_ixRange ?rdA ?rdB ?rdC ?_); (case rdA => (purse 2 => fail)); (case rdB => omega); (case rdC => omega)) | ((with_reducible refine' r_ixT ?rdA ?rdB ?_); (case rdA => (purse 2 => fail)); (case rdB => first | with_reducible exact at0 | with_reducible exact at1 | with_reducible exact at2 | with_reducible exact at3 | rfl)) | ((with_reducible refine' r_ixL ?rdA ?rdB ?_); (case rdA => (purse 2 => fail)); (case rdB => first | with_reducible exact at0 | with_reducible exact at1 | with_reducible exact at2 | with_reducible exact at3 | rfl)) | ((with_reducible refine' r_isiLT ?rdA ?rdB ?_); (case rdA => (purse 2 => fail)); (case rdB => (purse 8 => fail))) | ((with_reducible refine' r_isiLF ?rdA ?rdB ?_); (case rdA => (purse 2 => fail)); (case rdB => (purse 8 => fail))) | ((with_reducible refine' r_isiT ?rdA ?rdB ?_); (case rdA => first | (purse 2 => fail) | constructor); (case rdB => (purse 8 => fail))) | ((with_reducible refine' r_isiF ?rdA ?rdB ?_); (case rdA => first | (purse 2 => fail) | constructor); (case rdB => (purse 8 => fail))) | ((with_reducible refine' r_intb ?_))))
local macro_rules | `(tactic| purse 35 => fail) => `(tactic| (first | ((with_reducible refine' r_inti ?_)) | ((with_reducible refine' r_abs ?_)) | ((with_reducible refine' r_lenL ?rdA ?_); (case rdA => (purse 2 => fail)); (try simp only [List.length_cons, List.length_nil, List.length_map])) | ((with_reducible refine' r_lenT ?rdA ?_); (case rdA => (purse 2 => fail)); (try simp only [List.length_cons, List.length_nil, List.length_map])) | ((with_reducible refine' r_lenP ?rdA ?_); (case rdA => (purse 2 => fail)); (try simp only [List.length_cons, List.length_nil, List.length_map])) | ((with_reducible refine' r_lenSm ?rdA ?_); (case rdA => (purse 2 => fail)); (try simp only [List.length_cons, List.length_nil, List.length_map])) | ((with_reducible refine' r_repr ?_)) | ((with_reducible refine' r_isB ?_)) | ((with_reducible refine' r_lstRg ?_))))
local macro_rules | `(tactic| purse 36 => fail) => `(tactic| (first | ((with_reducible refine' r_rg2 ?rdA ?_); (case rdA => (first | omega | (refine ⟨?_, ?_, ?_, ?_, ?_⟩ <;> omega))); intro pN hN) | ((with_reducible refine' r_slP5 ?rdA ?_); (case rdA => (purse 2 => fail)); intro pc H2 h2 pP2) | ((with_reducible refine' r_cv1 ?rdA ?_); (case rdA => rfl)) | ((with_reducible refine' r_cv2 ?rdA ?_); (case rdA => rfl)) | ((with_reducible refine' r_modN ?rdA ?_); (case rdA => omega)) | ((with_reducible refine' r_divN ?rdA ?_); (case rdA => constructor <;> omega)) | ((with_reducible refine' s_sli ?_)) | ((with_reducible refine' r_notB ?_)) | ((with_reducible refine' r_max2 ?_))))
local macro_rules | `(tactic| purse 37 => fail) => `(tactic| (first | ((with_reducible refine' r_min2 ?_)) | ((with_reducible refine' r_tup ?_)) | ((with_reducible refine' r_lst ?_)) | ((with_reducible refine' r_small (n := 64) ?rdA ?rdB ?_); (case rdA => (first | decide | (simp only [List.length_cons, List.length_nil]; omega))); (case rdB => decide); intro pN hN) | ((with_reducible refine' r_eqNil0 ?rdA ?rdB ?_); (case rdA => (purse 2 => fail)); (case rdB => (purse 2 => fail))) | ((with_reducible refine' r_eqNil1 ?rdA ?rdB ?rdC ?_); (case rdA => (purse 2 => fail)); (case rdB => (purse 2 => fail)); (case rdC => assumption)) | ((with_reducible refine' r_p2 ?_)) | ((with_reducible refine' r_p3 ?_)) | ((with_reducible refine' r_p4 ?_))))
local macro_rules | `(tactic| purse 38 => fail) => `(tactic| (first | ((with_reducible refine' r_p5 ?_)) | ((with_reducible refine' r_p6 ?_)) | ((with_reducible refine' r_p7 ?_)) | ((with_reducible refine' r_p8 ?_)) | ((with_reducible refine' r_p9 ?_)) | ((with_reducible refine' r_p10 ?_)) | ((with_reducible refine' r_p12 ?_)) | ((with_reducible refine' r_p15 ?_)) | ((with_reducible refine' r_p14 ?_))))
local macro_rules | `(tactic| purse 39 => fail) => `(tactic| (first | ((with_reducible refine' r_p16 ?_)) | ((with_reducible refine' r_p17 ?_)) | ((with_reducible refine' r_p18 ?_)) | ((with_reducible refine' s_sub ?_)) | ((with_reducible refine' r_setL ?rdA ?rdB ?_); (case rdA => (purse 3 => fail)); (case rdB => rfl)) | ((with_reducible refine' i_zip ?_)) | ((with_reducible refine' i_z ?rdA ?rdB ?_); (case rdA => (purse 2 => fail)); (case rdB => (purse 2 => fail))) | ((with_reducible refine' i_enum ?_)) | ((with_reducible refine' i_e ?rdA ?_); (case rdA => (purse 2 => fail)))))
local macro_rules | `(tactic| purse 40 => fail) => `(tactic| (first | ((with_reducible refine' r_sl ?_)) | ((with_reducible refine' r_nopart ?_)) | ((with_reducible refine' r_part ?_)) | ((with_reducible refine' r_exi ?_)) | ((with_reducible refine' r_sl1I ?rdA ?_); (case rdA => (purse 2 => fail)); intro pN hN) | ((with_reducible refine' r_slFromI ?rdA ?_); (case rdA => (purse 2 => fail)); intro pN hN) | ((with_reducible refine' r_slToI ?rdA ?_); (case rdA => (purse 2 => fail)); intro pN hN) | ((with_reducible refine' r_slL ?rdA ?_); (case rdA => (purse 2 => fail)); intro pN hN) | ((with_reducible refine' r_catI ?rdA ?rdB ?rdC ?_); (case rdA => (purse 3 => fail)); (case rdB => (purse 3 => fail)); (case rdC => (purse 12 => fail)); intro pN hN)))
local macro_rules | `(tactic| purse 41 => fail) => `(tactic| (first | ((with_reducible refine' r_cat ?rdA ?rdB ?rdC ?_); (case rdA => (purse 3 => fail)); (case rdB => (purse 3 => fail)); (case rdC => (purse 12 => fail)); intro pN hN) | ((with_reducible refine' r_revL ?_)) | ((with_reducible refine' r_sum ?rdA ?_); (case rdA => (purse 2 => fail))) | ((with_reducible refine' r_eqInts ?rdA ?rdB ?_); (case rdA => (purse 2 => fail)); (case rdB => (purse 2 => fail))) | ((with_reducible refine' r_eqNilI ?rdA ?rdB ?_); (case rdA => (purse 2 => fail)); (case rdB => (purse 2 => fail))) | ((with_reducible refine' r_neNilI ?rdA ?rdB ?_); (case rdA => (purse 2 => fail)); (case rdB => (purse 2 => fail))) | ((with_reducible refine' r_eqIntsD ?rdA ?rdB ?_); (case rdA => (purse 2 => fail)); (case rdB => (purse 2 => fail))) | ((with_reducible refine' r_neInts ?rdA ?rdB ?_); (case rdA => (purse 2 => fail)); (case rdB => (purse 2 => fail))) | ((with_reducible refine' r_eqInts ?rdA ?rdB ?_); (case rdA => (purse 2 => fail)); (case rdB => (purse 2 => fail)))))
local macro_rules | `(tactic| purse 42 => fail) => `(tactic| (first | ((with_reducible refine' r_slP1 ?rdA ?_); (case rdA => (purse 2 => fail)); intro pc H2 h2 pP2) | ((with_reducible refine' r_neNilP ?rdA ?rdB ?_); (case rdA => (purse 2 => fail)); (case rdB => (purse 2 => fail))) | ((with_reducible refine' r_eqNilP ?rdA ?rdB ?_); (case rdA => (purse 2 => fail)); (case rdB => (purse 2 => fail))) | ((with_reducible refine' r_slP2 ?rdA ?_); (case rdA => (purse 2 => fail)); intro pc H2 h2 pP2) | ((with_reducible refine' r_slPto ?rdA ?_); (case rdA => (purse 2 => fail)); intro pc H2 h2 pP2) | ((with_reducible refine' r_slPfrom ?rdA ?_); (case rdA => (purse 2 => fail)); intro pc H2 h2 pP2) | ((with_reducible refine' r_slPfrom1 ?rdA ?_); (case rdA => (purse 2 => fail)); intro pc H2 h2 pP2) | ((with_reducible refine' r_catP ?rdA ?rdB ?rdC ?_); (case rdA => (purse 2 => fail)); (case rdB => (purse 2 => fail)); (case rdC => (first | omega | (simp only [List.length_append, List.length_cons, List.length_nil, List.length_take, List.length_drop]; omega))); intro pc H2 h2 pP2) | ((with_reducible refine' r_minX ?rdA ?rdB ?_); (case rdA => (purse 2 => fail)); (case rdB => (first | assumption | omega)); intro mn mnh)))
local macro_rules | `(tactic| purse 43 => fail) => `(tactic| (first | ((with_reducible refine' r_maxX ?rdA ?rdB ?_); (case rdA => (purse 2 => fail)); (case rdB => (first | assumption | omega)); intro mx mxh) | ((with_reducible refine' r_lcount ?rdA ?_); (case rdA => (purse 2 => fail))) | ((with_reducible refine' r_isN ?_)) | ((with_reducible refine' r_slTail ?rdA ?_); (case rdA => (purse 2 => fail)); intro pc H2 h2 sT2) | ((with_reducible refine' r_revT ?_)) | ((with_reducible refine' r_revP ?rdA ?_); (case rdA => (purse 2 => fail)); intro pc H2 h2 pP2) | ((with_reducible refine' s_par3 ?_)) | ((with_reducible refine' s_par33 ?_)) | ((with_reducible refine' r_sumT ?rdA ?_); (case rdA => (purse 2 => fail)))))
local macro_rules | `(tactic| purse 44 => fail) => `(tactic| (first | ((with_reducible refine' r_minT ?rdA ?rdB ?_); (case rdA => (purse 2 => fail)); (case rdB => (first | assumption | omega)); intro mn mnh) | ((with_reducible refine' r_maxT ?rdA ?rdB ?_); (case rdA => (purse 2 => fail)); (case rdB => (first | assumption | omega)); intro mx mxh) | ((with_reducible refine' r_slTfrom ?rdA ?rdB ?_); (case rdA => (purse 2 => fail)); (case rdB => omega); intro pc H2 h2 sT2) | ((with_reducible refine' r_slTto ?rdA ?rdB ?_); (case rdA => (purse 2 => fail)); (case rdB => omega); intro pc H2 h2 sT2) | ((with_reducible refine' r_catTI ?rdA ?rdB ?rdC ?_); (case rdA => (purse 2 => fail)); (case rdB => (purse 2 => fail)); (case rdC => (first | omega | (simp only [List.length_take, List.length_drop]; omega))); intro pc H2 h2 sT2) | ((with_reducible refine' r_eqIntsTD ?rdA ?rdB ?_); (case rdA => (purse 2 => fail)); (case rdB => (purse 2 => fail))) | ((with_reducible refine' r_bm ?_)) | ((with_reducible refine' s_for ?_)) | ((with_reducible refine' r_yes ?_))))
local macro_rules | `(tactic| purse 45 => fail) => `(tactic| (first | ((with_reducible refine' r_tupL ?rdA ?_); (case rdA => (purse 2 => fail)); intro pN hN) | ((with_reducible refine' r_lstL ?rdA ?_); (case rdA => (purse 2 => fail)); intro pN hN) | ((with_reducible refine' r_lstT ?rdA ?_); (case rdA => (purse 2 => fail)); intro pN hN) | ((with_reducible refine' s_lc ?_)) | ((with_reducible refine' i_list ?_)) | ((with_reducible refine' i_tup ?_)) | ((with_reducible refine' i_rng1 ?_)) | ((with_reducible refine' i_rng2 ?_)) | ((with_reducible refine' i_l ?rdA ?_); (case rdA => (purse 2 => fail)))))
local macro_rules | `(tactic| purse 46 => fail) => `(tactic| (first | ((with_reducible refine' i_t ?rdA ?_); (case rdA => (purse 2 => fail))) | ((with_reducible refine' i_r1 ?rdA ?_); (case rdA => first | omega | decide)) | ((with_reducible refine' i_r2 ?rdA ?_); (case rdA => first | omega | decide)) | ((with_reducible refine' r_tyL ?rdA ?_); (case rdA => (purse 3 => fail))) | ((with_reducible refine' r_append ?rdA ?rdB ?_); (case rdA => (purse 3 => fail)); (case rdB => (purse 4 => fail))) | ((with_reducible refine' s_gcons ?_)) | ((with_reducible refine' s_gnil ?_)) | ((with_reducible refine' s_tupT ?rdA ?rdB ?_); (case rdA => (purse 2 => fail)); (case rdB => rfl))))
local macro_rules | `(tactic| purse 29 => fail) => `(tactic| (first | ((with_reducible refine' iteT ?_)) | ((with_reducible refine' iteF ?_)) | ((with_reducible refine' iteNT ?_)) | ((with_reducible refine' iteNF ?_)) | ((with_reducible refine' iteD ?rdA ?_); (case rdA => first | assumption | exact scE1 | exact scE2 | exact scE3 | exact scE4 | exact nonE | exact refE | exact intE | exact blE)) | ((with_reducible refine' iteDF ?rdA ?_); (case rdA => first | assumption | exact scE1 | exact scE2 | exact scE3 | exact scE4 | exact nonE | exact refE | exact intE | exact blE)) | ((with_reducible refine' iteND ?rdA ?_); (case rdA => first | assumption | exact scE1 | exact scE2 | exact scE3 | exact scE4 | exact nonE | exact refE | exact intE | exact blE)) | ((with_reducible refine' iteNDF ?rdA ?_); (case rdA => first | assumption | exact scE1 | exact scE2 | exact scE3 | exact scE4 | exact nonE | exact refE | exact intE | exact blE)) | ((with_reducible refine' dec_vint ?_)) | ((with_reducible refine' dec_vintn ?_)) | ((with_reducible refine' ifb ?_ ?_) <;> intro hc <;> (try (exfalso; first | omega | exact hc (congrArg V.int (by omega))))) | ((with_reducible refine' ifnb ?_ ?_) <;> intro hc <;> (try (exfalso; first | omega | exact hc (congrArg V.int (by omega))))) | ((with_reducible refine' ifB ?_ ?_) <;> intro hc <;> (try (exfalso; first | omega | exact hc (congrArg V.int (by omega))))) | ((with_reducible refine' ifNB ?_ ?_) <;> intro hc <;> (try (exfalso; first | omega | exact hc (congrArg V.int (by omega)))))))
local macro_rules | `(tactic| purse 1 => fail) => `(tactic| (with_reducible (repeat (first | assumption | exact Same.refl _ | refine Same.up ?_ (by assumption) | refine Same.upN ?_ (by assumption) | refine Same.trans ?_ (by assumption)))))
local macro_rules | `(tactic| purse 2 => fail) => `(tactic| (with_reducible (repeat (first | assumption | exact Dp.int _ | exact Dp.str _ | exact Dp.bl _ | exact Dp.non | exact SqT.new | exact SqL.new | exact SqL.of (by assumption) | exact StepAt.newE | exact StepAt.newS | (apply PipeAt.new; (purse 10 => fail)) | exact PtAt.new | (apply SampAt.new; (purse 11 => fail)) | exact Bs.bag (by assumption) | (apply SqT.hs; (case e => assumption)) | (apply SqT.hu; (case n => assumption)) | (apply SqL.hs; (case e => assumption)) | (apply SqL.hu; (case n => assumption)) | (apply StepAt.hs; (case e => assumption)) | (apply StepAt.hu; (case n => assumption)) | (apply PipeAt.hs; (case e => assumption)) | (apply PipeAt.hu; (case n => assumption)) | (apply BagAt.hs; (case e => assumption)) | (apply BagAt.hu; (case n => assumption)) | (apply Dp.hs; (case e => assumption)) | (apply Dp.hu; (case n => assumption)) | (apply PtAt.hs; (case e => assumption)) | (apply PtAt.hu; (case n => assumption)) | (apply SampAt.hs; (case e => assumption)) | (apply SampAt.hu; (case n => assumption)) | (apply RowAt.hs; (case e => assumption)) | (apply RowAt.hu; (case n => assumption)) | (apply SqT.hb; (case e => assumption)) | (apply SqT.hl; (case n => (purse 3 => fail))) | (apply StepAt.hb; (case e => assumption)) | (apply StepAt.hl; (case n => (purse 3 => fail))) | (apply PipeAt.hb; (case e => assumption)) | (apply PipeAt.hl; (case n => (purse 3 => fail))) | (apply PtAt.hb; (case e => assumption)) | (apply PtAt.hl; (case n => (purse 3 => fail))) | (apply SampAt.hb; (case e => assumption)) | (apply SampAt.hl; (case n => (purse 3 => fail))) | (apply RowAt.hb; (case e => assumption)) | (apply RowAt.hl; (case n => (purse 3 => fail))) | (apply SqL.hb; (case e => assumption); (case n => (purse 5 => fail))) | (apply SqL.hn; (case n => (purse 5 => fail))) | (apply BagAt.hn; (case nb => (purse 5 => fail)); (case nd => (purse 5 => fail))))); done))
local macro_rules | `(tactic| purse 3 => fail) => `(tactic| (with_reducible (repeat (first | assumption | exact upd_same | (apply HAt.hs; (case e => assumption)) | (apply HAt.hu; (case n => assumption)) | (apply HAt.hb; (case e => assumption); (case n => (purse 5 => fail))) | (apply HAt.hn; (case n => (purse 5 => fail))))); done))
local macro_rules | `(tactic| purse 4 => fail) => `(tactic| (exact sz_lt (by (try simp only [List.length_map, List.length_append, List.length_cons, List.length_nil, List.length_take, List.length_range, List.length_drop]); omega)))
local macro_rules | `(tactic| purse 5 => fail) => `(tactic| (with_reducible first | assumption | exact Ne.symm (by assumption) | (apply NEb; (case n => assumption); (case h => (purse 9 => fail))) | (apply NEd; (case n => assumption); (case h => (purse 9 => fail))) | (apply NEs; (case n => assumption); (case h => (purse 3 => fail)))))
local macro_rules | `(tactic| purse 6 => fail) => `(tactic| (with_reducible (repeat (first | assumption | exact Bs.refl (by assumption) | (apply Bs.hu; (case n => assumption)) | (apply Bs.hs; (case e => assumption)) | (apply Bs.hb; (case y => assumption)) | (apply Bs.hl; (case n => (purse 7 => fail)); (case hl => (purse 3 => fail)); (case h => assumption)))); done))
local macro_rules | `(tactic| purse 7 => fail) => `(tactic| (with_reducible first | assumption | (apply Bs.free; (case n => assumption); (case x => (purse 6 => fail))) | (apply Same.free; (case h => assumption); (case e => ((purse 1 => fail); done)))))
local macro_rules | `(tactic| purse 8 => fail) => `(tactic| ((try dsimp only [tyD]); with_reducible first | exact kB_NoneType_int | exact kB_bool_int | exact kB_int_int | exact kB_str_int | exact kB_list_int | exact kB_tuple_int | exact kB_NoneType_bool | exact kB_bool_bool | exact kB_int_bool | exact kB_str_bool | exact kB_list_bool | exact kB_tuple_bool | exact kB_NoneType_str | exact kB_bool_str | exact kB_int_str | exact kB_str_str | exact kB_list_str | exact kB_tuple_str | exact kB_NoneType_tuple | exact kB_bool_tuple | exact kB_int_tuple | exact kB_str_tuple | exact kB_list_tuple | exact kB_tuple_tuple | exact kB_NoneType_list | exact kB_bool_list | exact kB_int_list | exact kB_str_list | exact kB_list_list | exact kB_tuple_list))
local macro_rules | `(tactic| purse 9 => fail) => `(tactic| (repeat (first | assumption | exact Bs.bag (by assumption) | (apply BagAt.hs; (case e => assumption)) | (apply BagAt.hu; (case n => assumption)))))
local macro_rules | `(tactic| purse 10 => fail) => `(tactic| (with_reducible (repeat (first | exact pairNil | (apply pairCons; (case h => (purse 2 => fail))))); done))
local macro_rules | `(tactic| purse 11 => fail) => `(tactic| (with_reducible (repeat (first | exact pairNilP | (apply pairConsP; (case h => (purse 2 => fail))))); done))
local macro_rules | `(tactic| purse 12 => fail) => `(tactic| (exact sz_le (by (try simp only [List.length_map, List.length_append, List.length_cons, List.length_nil, List.length_take, List.length_range, List.length_drop]); omega)))
local macro_rules | `(tactic| purse 13 => fail) => `(tactic| (with_reducible first | (purse 2 => fail) | (apply dpInts; (purse 2 => fail)) | (apply Dp.mkI; (purse 2 => fail)) | (apply Dp.mkT; (case h => (purse 2 => fail)); (case r => (purse 14 => fail))) | (apply Dp.mkL; (case h => (purse 2 => fail)); (case r => (purse 14 => fail)))))
local macro_rules | `(tactic| purse 14 => fail) => `(tactic| (with_reducible (repeat (first | exact dpNil | (apply dpCons; (case h => (purse 13 => fail))))); done))
local macro_rules | `(tactic| purse 15 => fail) => `(tactic| (first | (purse 30 => fail) | (purse 31 => fail) | (purse 32 => fail) | (purse 33 => fail) | (purse 34 => fail) | (purse 35 => fail) | (purse 36 => fail) | (purse 37 => fail) | (purse 38 => fail) | (purse 39 => fail) | (purse 40 => fail) | (purse 41 => fail) | (purse 42 => fail) | (purse 43 => fail) | (purse 44 => fail) | (purse 45 => fail) | (purse 46 => fail) | (purse 99 => fail) | (purse 29 => fail)))
local macro_rules | `(tactic| purse 16 => fail) => `(tactic| (repeat' (purse 15 => fail)))
section

section
variable {P : Program} {w : World} {K : PySem.W.Frag} {mg : Str → Option Value} {base : Heap}
theorem ok_is_integer {f : Addr} {fd : FuncData} (F : Fun K "is_integer" "is_integer" s_is_integer f fd) (z_isinstance : mg "isinstance" = none) (z_bool : mg "bool" = none) (z_int : mg "int" = none) :
    FnOk P w K mg base CX0 1 f fd ["value", "low", "high"] (sp_is_integer K) := by
  refine F.ok sc_is_integer (fun vs H Q E h => sp_is_integer_len h) (fun cdv A outer s H vs Q E hr h => ?_)
  obtain ⟨v, lo, hi, d, rfl, hd, k⟩ := h
  refine ⟨_, (pss_one (ps_ret (pe_and (pe_callB (kisi K) (by rfl) z_isinstance (by decide +kernel) (pa_cons (pv 0) (pa_cons (pe_bltn (v := .ty "int") (by rfl) z_int (by decide +kernel) rfl) pa_nil))) (pe_and (pe_not (pe_callB (kisi K) (by rfl) z_isinstance (by decide +kernel) (pa_cons (pv 0) (pa_cons (pe_bltn (v := .ty "bool") (by rfl) z_bool (by decide +kernel) rfl) pa_nil)))) (pe_one (pe_chain op_le op_le (pv 1) (pv 0) (pv 2))))))), ?_⟩
  cases d with
  | int i =>
    cases hd
    (purse 16 => fail)
    all_goals (refine qbl ?_ (k _ (Same.refl _)); simp [isIntD, hc])
  | none => (purse 16 => fail); exact k _ (Same.refl _)
  | bool b => (purse 16 => fail); exact k _ (Same.refl _)
  | str b => (purse 16 => fail); exact k _ (Same.refl _)
  | list b => (purse 16 => fail); exact k _ (Same.refl _)
  | tuple b => (purse 16 => fail); exact k _ (Same.refl _)
  | dict b => cases hd
end
end
section
local macro_rules | `(tactic| purse 99 => fail) => `(tactic| (first | ((with_reducible refine' u_is_integer ?rdA ?_); (case rdA => (purse 2 => fail)); intro H2 h2)))
section
variable {P : Program} {w : World} {K : PySem.W.Frag} {mg : Str → Option Value} {base : Heap}
theorem ok_is_step {f : Addr} {fd : FuncData} (F : Fun K "is_step" "is_step" s_is_step f fd) (c_is_integer : Can P w K mg base 1 "is_integer" ["value", "low", "high"] (sp_is_integer K)) (z_len : mg "len" = none) (z_isinstance : mg "isinstance" = none) (z_str : mg "str" = none) (z_tuple : mg "tuple" = none) (g_OFFSET_BOUND : KInt mg "OFFSET_BOUND" 1000000000) :
    FnOk P w K mg base CX0 2 f fd ["value"] (sp_is_step K) := by
  refine F.ok sc_is_step (fun vs H Q E h => sp_is_step_len h) (fun cdv A outer s H vs Q E hr h => ?_)
  obtain ⟨v, d, rfl, hd, sh, k⟩ := h
  refine ⟨_, (pss_cons (ps_if (PW.pt (pw_or (pt_not (pt_val (pe_callB (kisi K) (by rfl) z_isinstance (by decide +kernel) (pa_cons (pv 0) (pa_cons (pe_bltn (v := .ty "tuple") (by rfl) z_tuple (by decide +kernel) rfl) pa_nil))))) (pw_or (pt_cmpR (keqD K hr.units) (pv 0) (pe_tup pa_nil) (nomark _)) (pw_or1 (pt_not (pt_val (pe_callB (kisi K) (by rfl) z_isinstance (by decide +kernel) (pa_cons (pe_ix (kix_tup K) (pv 0) pe_int (fun _ _ => rfl)) (pa_cons (pe_bltn (v := .ty "str") (by rfl) z_str (by decide +kernel) rfl) pa_nil))))))))) (pss_one (ps_ret pe_bl)) pss_nil) (pss_cons (ps_if (pt_cmpR op_eq (pe_ix (kix_tup K) (pv 0) pe_int (fun _ _ => rfl)) pe_str (nomark _)) (pss_one (ps_ret (pe_and (pe_cmpR op_eq (pe_callB (klen K) (by rfl) z_len (by decide +kernel) (pa_cons (pv 0) pa_nil)) pe_int (nomark _)) (pe_one (pe_can c_is_integer (hr.mono (by decide)) (by rfl) (pa_cons (pe_ix (kix_tup K) (pv 0) pe_int (fun _ _ => rfl)) (pa_cons pe_int (pa_cons pe_int pa_nil)))))))) pss_nil) (pss_cons (ps_if (PW.pt (pw_or (pt_cmpR op_ne (pe_ix (kix_tup K) (pv 0) pe_int (fun _ _ => rfl)) pe_str (nomark _)) (pw_or1 (pt_cmpR op_ne (pe_callB (klen K) (by rfl) z_len (by decide +kernel) (pa_cons (pv 0) pa_nil)) pe_int (nomark _))))) (pss_one (ps_ret pe_bl)) pss_nil) (pss_cons (ps_if (PW.pt (pw_or (pt_not (pt_val (pe_can c_is_integer (hr.mono (by decide)) (by rfl) (pa_cons (pe_ix (kix_tup K) (pv 0) pe_int (fun _ _ => rfl)) (pa_cons pe_int (pa_cons pe_int pa_nil)))))) (pw_or1 (pt_not (pt_val (pe_can c_is_integer (hr.mono (by decide)) (by rfl) (pa_cons (pe_ix (kix_tup K) (pv 0) pe_int (fun _ _ => rfl)) (pa_cons pe_int (pa_cons pe_int pa_nil))))))))) (pss_one (ps_ret pe_bl)) pss_nil) (pss_one (ps_ret (pe_can c_is_integer (hr.mono (by decide)) (by rfl) (pa_cons (pe_ix (kix_tup K) (pv 0) pe_int (fun _ _ => rfl)) (pa_cons (pe_op op_sub pe_int (pe_k (by rfl) g_OFFSET_BOUND)) (pa_cons (pe_k (by rfl) g_OFFSET_BOUND) pa_nil)))))))))), ?_⟩
  cases d with
  | int i => (purse 16 => fail); exact k _ (Same.refl _)
  | none => (purse 16 => fail); exact k _ (Same.refl _)
  | bool b => (purse 16 => fail); exact k _ (Same.refl _)
  | str b => (purse 16 => fail); exact k _ (Same.refl _)
  | list b => (purse 16 => fail); exact k _ (Same.refl _)
  | dict b => cases hd
  | tuple ds =>
    have hd' := hd
    cases hd with
    | tup hS ha =>
      cases ha with
      | nil => (purse 16 => fail); exact k _ (by (purse 1 => fail))
      | @cons v0 vr d0 dr h0 hr =>
        cases d0 with
        | int i => (purse 16 => fail); exact k _ (by (purse 1 => fail))
        | none => (purse 16 => fail); exact k _ (by (purse 1 => fail))
        | bool b => (purse 16 => fail); exact k _ (by (purse 1 => fail))
        | list b => (purse 16 => fail); exact k _ (by (purse 1 => fail))
        | tuple b => (purse 16 => fail); exact k _ (by (purse 1 => fail))
        | dict b => cases h0
        | str t =>
          have h0' := h0
          cases h0
          by_cases te : t = "even"
          · have e1 := decStr te
            cases hr with
            | nil => (purse 16 => fail); exact qbl (by simp [isStepD, te]) (k _ (by (purse 1 => fail)))
            | cons h1 hr =>
              cases hr with
              | nil => (purse 16 => fail); exact qbl (by simp [isStepD, te]) (k _ (by (purse 1 => fail)))
              | cons h2 hr => (purse 16 => fail); exact qbl (by simp [isStepD, te]) (k _ (by (purse 1 => fail)))
          · have e1 := decStrN te
            by_cases ts : t = "scale"
            · have e2 := decStr ts
              cases hr with
              | nil => (purse 16 => fail); exact qbl (by simp [isStepD, te, ts, se_ne]) (k _ (by (purse 1 => fail)))
              | cons h1 hr =>
                cases hr with
                | nil => (purse 16 => fail); exact qbl (by simp [isStepD, te, ts, se_ne]) (k _ (by (purse 1 => fail)))
                | cons h2 hr =>
                  cases hr with
                  | nil => (purse 16 => fail); exact qbl (by simp [isStepD, te, ts, se_ne]) (k _ (by (purse 1 => fail)))
                  | cons h3 hr =>
                    cases hr with
                    | nil =>
                      (purse 16 => fail)
                      all_goals (refine qbl ?_ (k _ (by (purse 1 => fail))); subst ts; simp_all [isStepD, se_ne])
                    | cons h4 hr => (purse 16 => fail); exact qbl (by simp [isStepD, te, ts, se_ne]) (k _ (by (purse 1 => fail)))
            · have e2 := decStrN ts
              (purse 16 => fail); exact qbl (by simp [isStepD, te, ts, se_ne]) (k _ (by (purse 1 => fail)))
end
end
section

section
variable {P : Program} {w : World} {K : PySem.W.Frag} {mg : Str → Option Value} {base : Heap}
theorem ok_step_period {f : Addr} {fd : FuncData} (F : Fun K "step_period" "step_period" s_step_period f fd)  :
    FnOk P w K mg base CX0 1 f fd ["step"] (sp_step_period K) := by
  refine F.ok sc_step_period (fun vs H Q E h => sp_step_period_len h) (fun cdv A outer s H vs Q E hr h => ?_)
  obtain ⟨v, st, rfl, ⟨a, rfl, hS⟩, hp, k⟩ := h
  refine ⟨_, (pss_cons (ps_if (pt_cmpR op_eq (pe_ix (kix_tup K) (pv 0) pe_int (fun _ _ => rfl)) pe_str (nomark _)) (pss_one (ps_ret (pe_tup (pa_cons (pe_ix (kix_tup K) (pv 0) pe_int (fun _ _ => rfl)) (pa_cons (pe_ix (kix_tup K) (pv 0) pe_int (fun _ _ => rfl)) pa_nil))))) pss_nil) (pss_cons (ps_set (i := 1) sc_step_period.nd rfl (Or.inl rfl) (pe_ix (kix_tup K) (pv 0) pe_int (fun _ _ => rfl))) (pss_one (ps_ret (pe_ifExp (pt_cmpR op_eq (pe_op op_mod (pv 1) pe_int) pe_int (nomark _)) (pe_tup (pa_cons (pe_op op_mul pe_int (pv 1)) (pa_cons pe_int pa_nil))) (pe_tup (pa_cons (pv 1) (pa_cons pe_int pa_nil)))))))), ?_⟩
  cases st with
  | sc ks m c =>
    obtain ⟨⟨k1, k2⟩, m1, m2⟩ := hp
    (purse 16 => fail)
    exact k _ _ (by (purse 1 => fail)) SqT.new
  | ev m =>
    obtain ⟨m1, m2⟩ := hp
    (purse 16 => fail)
    · refine k _ _ (by (purse 1 => fail)) ?_
      show SqT K _ _ [.int (if m % 2 = 0 then 2 * m else m), .int (if m % 2 = 0 then 2 else 1)]
      rw [if_pos hc, if_pos hc]; exact SqT.new
    · refine k _ _ (by (purse 1 => fail)) ?_
      show SqT K _ _ [.int (if m % 2 = 0 then 2 * m else m), .int (if m % 2 = 0 then 2 else 1)]
      rw [if_neg hc, if_neg hc]; exact SqT.new
end
end
section
local macro_rules | `(tactic| purse 99 => fail) => `(tactic| (first | ((with_reducible refine' u_step_period ?rdA ?rdB ?_); (case rdA => (purse 2 => fail)); (case rdB => assumption); intro p2 H2 h2 t2) | ((with_reducible refine' u_is_step ?rdA ?rdB ?_); (case rdA => (purse 2 => fail)); (case rdB => assumption); intro H2 h2)))
section
variable {P : Program} {w : World} {K : PySem.W.Frag} {mg : Str → Option Value} {base : Heap}
theorem ok_is_pipeline {f : Addr} {fd : FuncData} (F : Fun K "is_pipeline" "is_pipeline" s_is_pipeline f fd) (c_step_period : Can P w K mg base 1 "step_period" ["step"] (sp_step_period K)) (c_is_step : Can P w K mg base 2 "is_step" ["value"] (sp_is_step K)) (z_all : mg "all" = none) (z_len : mg "len" = none) (z_isinstance : mg "isinstance" = none) (z_tuple : mg "tuple" = none) (g_MAX_PERIOD : KInt mg "MAX_PERIOD" 120) (g_MAX_STEPS : KInt mg "MAX_STEPS" 6) :
    FnOk P w K mg base CX0 3 f fd ["value"] (sp_is_pipeline K) := by
  refine F.ok sc_is_pipeline (fun vs H Q E h => sp_is_pipeline_len h) (fun cdv A outer s H vs Q E hr h => ?_)
  obtain ⟨v, d, rfl, hd, sh, k⟩ := h
  refine ⟨_, (pss_cons (ps_if (PW.pt (pw_or (pt_not (pt_val (pe_callB (kisi K) (by rfl) z_isinstance (by decide +kernel) (pa_cons (pv 0) (pa_cons (pe_bltn (v := .ty "tuple") (by rfl) z_tuple (by decide +kernel) rfl) pa_nil))))) (pw_or (pt_cmpR op_gt (pe_callB (klen K) (by rfl) z_len (by decide +kernel) (pa_cons (pv 0) pa_nil)) (pe_k (by rfl) g_MAX_STEPS) (nomark _)) (pw_or1 (pt_not (pt_val (pe_callB (kall K) (by rfl) z_all (by decide +kernel) (pa_cons (pe_lc (own := [("step", 1)]) (by rfl) sc_is_pipeline.nd (kpi_tup K (pv 0)) (blkOk_by (own := [("step", 1)]) (N := n_is_pipeline) (sc := defScope s_is_pipeline) (by decide +kernel)) (fun _ _ _ _ _ => (pg_name (i := 1) sc_is_pipeline.nd rfl (Or.inl rfl))) (fun _ _ _ _ _ => pts_nil) (fun _ _ _ _ _ => (pe_can c_is_step (hr.mono (by decide)) (by rfl) (pa_cons (pv 1) pa_nil)))) pa_nil)))))))) (pss_one (ps_ret pe_bl)) pss_nil) (pss_cons (ps_set (i := 2) sc_is_pipeline.nd rfl (Or.inl rfl) pe_int) (pss_cons (ps_for PassesOwn.never rfl (kpi_tup K (pv 0)) (pg_name (i := 1) sc_is_pipeline.nd rfl (Or.inl rfl)) (pss_one (ps_set (i := 2) sc_is_pipeline.nd rfl (Or.inl rfl) (pe_op op_mul (pv 2) (pe_ix (kix_tup K) (pe_can c_step_period (hr.mono (by decide)) (by rfl) (pa_cons (pv 1) pa_nil)) pe_int (fun _ _ => rfl)))))) (pss_one (ps_ret (pe_cmpR op_le (pv 2) (pe_k (by rfl) g_MAX_PERIOD) (nomark _))))))), ?_⟩
  cases d with
  | int i => (purse 16 => fail); exact k _ (Same.refl _)
  | none => (purse 16 => fail); exact k _ (Same.refl _)
  | bool b => (purse 16 => fail); exact k _ (Same.refl _)
  | str b => (purse 16 => fail); exact k _ (Same.refl _)
  | list b => (purse 16 => fail); exact k _ (Same.refl _)
  | dict b => cases hd
  | tuple ds =>
    have hd' := hd
    cases hd with
    | tup hS ha =>
      rw [shaped_tup, Bool.and_eq_true, decide_eq_true_eq] at sh
      obtain ⟨sh1, sh2⟩ := sh
      have hl := DpAll.len ha
      (purse 16 => fail)
      · exact qbl (by simp [isPipeD]; omega) (k _ (by (purse 1 => fail)))
      · refine ll_tup (ys := ds.map isStepD) V.bl hS (by simp [hl]) (by rw [List.length_map]; omega) (fun _ => rfl) ?_ ?_
        · intro i x y H' Q' hx hy hs kq
          obtain ⟨d, hd, hdx⟩ := DpAll.get ha hx
          rw [List.getElem?_map, hd] at hy
          cases hy
          (purse 16 => fail)
          exact u_is_step (Dp.same hs hdx) (shaped_mem sh1 sh2 d (List.mem_of_getElem? hd)) fun H4 h4 => kq _ h4
        · intro D H1 hs hD hn
          (purse 16 => fail)
          refine r_all (SqL.of hD) ?_
          (purse 16 => fail)
          · refine qbl ?_ (k _ (by (purse 1 => fail)))
            have e : ds.all isStepD = false := by
              rw [List.all_map] at hc
              simpa using hc
            simp [isPipeD, e]
          · have e : ds.all isStepD = true := by
              rw [List.all_map] at hc
              simpa using hc
            obtain ⟨p, rfl, hp⟩ := steps_of e
            have hx := ofDpAll ha
            refine fl_P (p := p) hS hx (fun i σ' H' => Same H H' ∧ ∃ w, σ' = [some (.ref _), w, some (.int (Pipe.prod (p.take i)))]) ⟨hs, _, rfl⟩ (fun _ _ _ h => .ofSame h.1) ?_ ?_
            · rintro i s v σ' H' hi hm hs' ⟨hH, w, rfl⟩
              have ps := (hp s hm).pos
              obtain ⟨pb1, pb2⟩ := Step.per_pos (hp s hm)
              (purse 16 => fail)
              exact ⟨by (purse 1 => fail), _, by rw [prod_take hi]; rfl⟩
            · rintro σ' H' ⟨hH, w, rfl⟩
              (purse 16 => fail)
              refine qbl ?_ (k _ hH)
              rw [List.take_length]
              simp only [isPipeD, Pipe.prod, e, Bool.and_true, List.map_map]
              have e2 : (perD ∘ Step.data) = Step.per := funext perD_data
              rw [e2]
              rw [List.length_map] at hl
              have e3 : decide ((List.map Step.data p).length ≤ 6) = true := decide_eq_true (by rw [List.length_map]; omega)
              rw [e3]
              simp
              try rfl
end
end
section

section
variable {P : Program} {w : World} {K : PySem.W.Frag} {mg : Str → Option Value} {base : Heap}
theorem ok_law_cell_at {f : Addr} {fd : FuncData} (F : Fun K "_law_cell_at" "_law_cell_at" s_law_cell_at f fd) (z_len : mg "len" = none) :
    FnOk P w K mg base CX0 1 f fd ["script", "k"] (sp_law_cell_at K) := by
  refine F.ok sc_law_cell_at (fun vs H Q E h => sp_law_cell_at_len h) (fun cdv A outer s H vs Q E hr h => ?_)
  obtain ⟨a, ns, x, rfl, hS, b, k⟩ := h
  refine ⟨_, (pss_cons (ps_if (pt_cmpR op_lt (pv 1) (pe_callB (klen K) (by rfl) z_len (by decide +kernel) (pa_cons (pv 0) pa_nil)) (nomark _)) (pss_one (ps_ret (pe_ix (kix_list K) (pv 0) (pv 1) (fun _ _ => rfl)))) pss_nil) (pss_one (ps_ret pe_int))), ?_⟩
  (purse 16 => fail)
  · have hi : x.toNat < ns.length := by omega
    refine r_ixL hS (v := .int ns[x.toNat]) (at_of (j := x.toNat) (by omega) (by rw [List.getElem?_map, List.getElem?_eq_getElem hi]; rfl)) ?_
    exact k _ _ (Same.refl _)
  · exact k _ _ (Same.refl _)
end
end
section

section
variable {P : Program} {w : World} {K : PySem.W.Frag} {mg : Str → Option Value} {base : Heap}
theorem ok_law_draws {f : Addr} {fd : FuncData} (F : Fun K "_law_draws" "_law_draws" s_law_draws f fd) (z_range : mg "range" = none) (z_int : mg "int" = none) :
    FnOk P w K mg base CX0 1 f fd ["cell", "many", "size"] (sp_law_draws K) := by
  refine F.ok sc_law_draws (fun vs H Q E h => sp_law_draws_len h) (fun cdv A outer s H vs Q E hr h => ?_)
  obtain ⟨c, rfl, k⟩ := h
  refine ⟨_, (pss_cons (ps_set (i := 3) sc_law_draws.nd rfl (Or.inl rfl) (pe_lst pa_nil)) (pss_cons (ps_set (i := 4) sc_law_draws.nd rfl (Or.inl rfl) (pe_op op_mul (pv 0) (pe_callTy kint1 (by rfl) z_int (by decide +kernel) (pa_cons (pe_cmpR op_ge (pv 0) (pe_op op_pow pe_int pe_int) (nomark _)) pa_nil)))) (pss_cons (ps_set (i := 5) sc_law_draws.nd rfl (Or.inl rfl) (pe_op op_mod (pv 0) pe_int)) (pss_cons (ps_for PassesOwn.never rfl (pi_range1 (by rfl) z_range (pa_cons (pe_op op_add (pv 1) pe_int) pa_nil)) (pg_name (i := 6) sc_law_draws.nd rfl (Or.inl rfl)) (pss_cons (ps_set (i := 5) sc_law_draws.nd rfl (Or.inl rfl) (pe_op op_mod (pe_op op_add (pe_op op_add (pe_op op_add (pe_op op_mul (pv 5) (pv 5)) (pe_op op_mul pe_int (pv 5))) (pv 6)) pe_int) pe_int)) (pss_one (ps_if (PW.pt (pw_and (pt_cmpR op_gt (pv 6) pe_int (nomark _)) (pw_and1 (pt_cmpR op_gt (pv 4) pe_int (nomark _))))) (pss_cons (ps_expr (pe_bm PySem.F.plainAttrs_list PySem.F.slot_list_append PySem.F.type_list_append mt_append (pv 3) (pa_cons (pe_op op_mod (pv 4) (pv 2)) pa_nil))) (pss_one (ps_set (i := 4) sc_law_draws.nd rfl (Or.inl rfl) (pe_op op_fdiv (pv 4) (pv 2))))) (pss_one (ps_if (pt_cmpR op_gt (pv 6) pe_int (nomark _)) (pss_one (ps_expr (pe_bm PySem.F.plainAttrs_list PySem.F.slot_list_append PySem.F.type_list_append mt_append (pv 3) (pa_cons (pe_op op_mod (pe_op op_fdiv (pv 5) pe_int) (pv 2)) pa_nil)))) pss_nil)))))) (pss_one (ps_ret (pv 3))))))), ?_⟩
  (purse 16 => fail)
  refine fl_range (fun i σ' H' => Same H H' ∧ ∃ (acc : List Int) (r st : Int) (w : Option V), H' pN = some (.lst (acc.map V.int)) ∧ acc.length = i - 3 ∧ (∀ z ∈ acc, 0 ≤ z) ∧ 0 ≤ st ∧ st < 2305843009213693951 ∧
    σ' = [some (.int c), some (.int 400), some (.int 1000), some (.ref pN), some (.int r), some (.int st), w]) ?_ ?_ ?_
  · exact ⟨by (purse 1 => fail), [], _, _, _, upd_same, rfl, by simp, Int.emod_nonneg _ (by decide), Int.emod_lt_of_pos _ (by decide), rfl⟩
  · rintro i σ' H' hi ⟨hS, acc, r, st, w, hp, hl, hz, s0, s1, rfl⟩
    have hi' : i < 403 := hi
    have n1 := Int.emod_nonneg (st * st + 48271 * st + (0 + (i : Int)) + 1) (b := 2305843009213693951) (by decide)
    have n2 := Int.emod_lt_of_pos (st * st + 48271 * st + (0 + (i : Int)) + 1) (b := 2305843009213693951) (by decide)
    (purse 16 => fail)
    · refine ⟨by (purse 1 => fail), acc ++ [r % 1000], _, _, _, ?_, ?_, ?_, n1, n2, rfl⟩
      · rw [upd_same, List.map_append]; rfl
      · rw [List.length_append, List.length_singleton]; omega
      · intro z hz'
        rcases List.mem_append.mp hz' with h | h
        · exact hz z h
        · rw [List.mem_singleton.mp h]; exact Int.emod_nonneg _ (by decide)
    · refine ⟨by (purse 1 => fail), acc ++ [(st * st + 48271 * st + (0 + (i : Int)) + 1) % 2305843009213693951 / 4096 % 1000], _, _, _, ?_, ?_, ?_, n1, n2, rfl⟩
      · rw [upd_same, List.map_append]; rfl
      · rw [List.length_append, List.length_singleton]; omega
      · intro z hz'
        rcases List.mem_append.mp hz' with h | h
        · exact hz z h
        · rw [List.mem_singleton.mp h]; exact Int.emod_nonneg _ (by decide)
    · exact ⟨hS, acc, _, _, _, hp, by omega, hz, n1, n2, rfl⟩
  · rintro σ' H' ⟨hS, acc, r, st, w, hp, hl, hz, s0, s1, rfl⟩
    (purse 16 => fail)
    exact k _ acc _ hS hN hp (by rw [hl]; rfl) hz
end
end
section

section
variable {P : Program} {w : World} {K : PySem.W.Frag} {mg : Str → Option Value} {base : Heap}
theorem ok_spoiltS (k : Nat) {f : Addr} {fd : FuncData} (F : Fun K "_law_spoilt" "_law_spoilt" s_law_spoilt f fd) (c__law_odd : Can P w K mg base 1 "_law_odd" ["picks"] (sp_law_odd K)) (z_tuple : mg "tuple" = none) (z_isinstance : mg "isinstance" = none) (z_len : mg "len" = none) (z_list : mg "list" = none) (b_self : Binds K fd ["thing", "picks"] []) (m_self : mg "_law_spoilt" = some (.ref f)) (c_self : Can P w K mg base (2 + k) "_law_spoilt" ["thing", "picks"] (spS K k)) :
    FnOk P w K mg base CX0 (2 + k + 1) f fd ["thing", "picks"] (spS K (k + 1)) := by
  refine F.ok sc_law_spoilt (fun vs H Q E h => spS_len h) (fun cdv A outer s H vs Q E hr h => ?_)
  obtain ⟨v, q, ns, H0, n, j, rfl, hq, hl, hS0, hn, hj, hv, kk⟩ := h
  obtain ⟨d, hd, hok⟩ := hv
  have hdH : Dp K H v d := Dp.same hS0 hd
  have fin : ∀ (H1 : Hp) v' H', Same H H1 → Same H1 H' → DV K (cutH H1 (fun _ => none) H') 4 2 v' → Q v' H' := fun H1 v' H' h1 h2 h3 =>
    kk v' H' (h1.trans h2) (DV.mono (by omega) (by omega) (DV.same ((cut_weak (H0 := H0)).trans (cut_cut h1 (Same.refl _))) h3))
  refine ⟨_, (pss_cons (ps_if (PW.pt (pw_or (pt_not (pt_val (pe_callB (kisiT K) (by rfl) z_isinstance (by decide +kernel) (pa_cons (pv 0) (pa_cons (pe_tup (pa_cons (pe_bltn (v := .ty "tuple") (by rfl) z_tuple (by decide +kernel) rfl) (pa_cons (pe_bltn (v := .ty "list") (by rfl) z_list (by decide +kernel) rfl) pa_nil))) pa_nil))))) (pw_or (pt_cmpR op_eq (pe_callB (klen K) (by rfl) z_len (by decide +kernel) (pa_cons (pv 0) pa_nil)) pe_int (nomark _)) (pw_or (pt_cmpR op_lt (pe_callB (klen K) (by rfl) z_len (by decide +kernel) (pa_cons (pv 1) pa_nil)) pe_int (nomark _)) (pw_or1 (pt_cmpR op_eq (pe_op op_mod (pe_ix (kix_list K) (pv 1) pe_int (fun _ _ => rfl)) pe_int) pe_int (nomark _))))))) (pss_one (ps_ret (pe_can c__law_odd (hr.mono (by omega)) (by rfl) (pa_cons (pe_slice (ksl_list K) (pv 1) (po_some pe_int) po_none) pa_nil)))) pss_nil) (pss_cons (ps_set (i := 2) sc_law_spoilt.nd rfl (Or.inl rfl) (pe_callTy (klist_of K) (by rfl) z_list (by decide +kernel) (pa_cons (pv 0) pa_nil))) (pss_cons (ps_set (i := 3) sc_law_spoilt.nd rfl (Or.inl rfl) (pe_op op_mod (pe_ix (kix_list K) (pv 1) pe_int (fun _ _ => rfl)) (pe_callB (klen K) (by rfl) z_len (by decide +kernel) (pa_cons (pv 2) pa_nil)))) (pss_cons (ps_set (i := 4) sc_law_spoilt.nd rfl (Or.inl rfl) (pe_op op_mod (pe_ix (kix_list K) (pv 1) pe_int (fun _ _ => rfl)) pe_int)) (pss_cons (ps_halt (ps_if (pt_cmpR op_eq (pv 4) pe_int (nomark _)) (pss_one (ps_set (i := 2) sc_law_spoilt.nd rfl (Or.inl rfl) (pe_op op_cat (pe_slice (ksl_list K) (pv 2) po_none (po_some (pv 3))) (pe_slice (ksl_list K) (pv 2) (po_some (pe_op op_add (pv 3) pe_int)) po_none)))) (pss_one (ps_if (pt_cmpR op_eq (pv 4) pe_int (nomark _)) (pss_one (ps_set (i := 2) sc_law_spoilt.nd rfl (Or.inl rfl) (pe_op op_cat (pe_slice (ksl_list K) (pv 2) po_none (po_some (pe_op op_add (pv 3) pe_int))) (pe_slice (ksl_list K) (pv 2) (po_some (pv 3)) po_none)))) (pss_one (ps_if (pt_cmpR op_eq (pv 4) pe_int (nomark _)) (pss_one (ps_set (i := 2) sc_law_spoilt.nd rfl (Or.inl rfl) (pe_op op_cat (pe_slice (ksl_list K) (pv 2) (po_some (pv 3)) po_none) (pe_slice (ksl_list K) (pv 2) po_none (po_some (pv 3)))))) (pss_one (ps_if (pt_cmpR op_eq (pv 4) pe_int (nomark _)) (pss_one (ps_set (i := 2) sc_law_spoilt.nd rfl (Or.inl rfl) (pe_op op_cat (pe_op op_cat (pe_slice (ksl_list K) (pv 2) po_none (po_some (pv 3))) (pe_lst (pa_cons (pe_can c__law_odd (hr.mono (by omega)) (by rfl) (pa_cons (pe_slice (ksl_list K) (pv 1) (po_some pe_int) po_none) pa_nil)) pa_nil))) (pe_slice (ksl_list K) (pv 2) (po_some (pv 3)) po_none)))) (pss_one (ps_if (pt_cmpR op_gt (pv 4) pe_int (nomark _)) (pss_one (ps_asg (pe_can c_self (hr.mono (by omega)) (by rfl) (pa_cons (pe_ix (kix_list K) (pv 2) (pv 3) (fun _ _ => rfl)) (pa_cons (pe_slice (ksl_list K) (pv 1) (po_some pe_int) po_none) pa_nil))) (pg_sub (pv 2) (pv 3) set_list))) pss_nil)))))))))) (pss_cons (ps_if (pt_cmpR op_eq (pe_callB (kisi K) (by rfl) z_isinstance (by decide +kernel) (pa_cons (pv 0) (pa_cons (pe_bltn (v := .ty "tuple") (by rfl) z_tuple (by decide +kernel) rfl) pa_nil))) (pe_cmpR op_eq (pv 4) pe_int (nomark _)) (nomark _)) (pss_one (ps_ret (pv 2))) pss_nil) (pss_one (ps_ret (pe_callTy (ktuple_of K) (by rfl) z_tuple (by decide +kernel) (pa_cons (pv 2) pa_nil)))))))))), ?_⟩
  have sca : kitB (tyD d) "tuple" = some false → kitB (tyD d) "list" = some false → True := fun _ _ => trivial
  cases d with
  | int i =>
    (purse 16 => fail)
    refine r_isi2 (d := .int i) (by (purse 2 => fail)) (by (purse 3 => fail)) (kAny_no "int" kB_int_tuple kB_int_list) ?_
    (purse 16 => fail)
    exact u_law_odd (ns := ns.drop 1) (SqL.of upd_same) (by rw [List.length_drop]; omega) fun v' H' h1 h2 => fin _ _ _ (by (purse 1 => fail)) h1 h2
  | none =>
    (purse 16 => fail)
    refine r_isi2 (d := .none) (by (purse 2 => fail)) (by (purse 3 => fail)) (kAny_no "NoneType" kB_NoneType_tuple kB_NoneType_list) ?_
    (purse 16 => fail)
    exact u_law_odd (ns := ns.drop 1) (SqL.of upd_same) (by rw [List.length_drop]; omega) fun v' H' h1 h2 => fin _ _ _ (by (purse 1 => fail)) h1 h2
  | bool b =>
    (purse 16 => fail)
    refine r_isi2 (d := .bool b) (by (purse 2 => fail)) (by (purse 3 => fail)) (kAny_no "bool" kB_bool_tuple kB_bool_list) ?_
    (purse 16 => fail)
    exact u_law_odd (ns := ns.drop 1) (SqL.of upd_same) (by rw [List.length_drop]; omega) fun v' H' h1 h2 => fin _ _ _ (by (purse 1 => fail)) h1 h2
  | str b =>
    (purse 16 => fail)
    refine r_isi2 (d := .str b) (by (purse 2 => fail)) (by (purse 3 => fail)) (kAny_no "str" kB_str_tuple kB_str_list) ?_
    (purse 16 => fail)
    exact u_law_odd (ns := ns.drop 1) (SqL.of upd_same) (by rw [List.length_drop]; omega) fun v' H' h1 h2 => fin _ _ _ (by (purse 1 => fail)) h1 h2
  | dict b => cases hd
  | list ds =>
    cases hd with
    | lst hT ha =>
      rename_i a xs
      have hTH := SqL.same hS0 hT
      have hal := DpAll.len ha
      cases xs with
      | nil =>
        (purse 16 => fail)
        refine r_isi2 (d := .list ds) (by (purse 2 => fail)) (by (purse 3 => fail)) (kAny_seq "list" (.inr rfl)) ?_
        (purse 16 => fail)
        rw [if_pos True.intro]
        (purse 16 => fail)
        exact u_law_odd (ns := ns.drop 1) (SqL.of upd_same) (by rw [List.length_drop]; omega) fun v' H' h1 h2 => fin _ _ _ (by (purse 1 => fail)) h1 h2
      | cons x0 xr =>
        obtain ⟨j1, rfl, hx0, hm0⟩ : ∃ j1, j = j1 + 1 ∧ (x0 :: xr).length ≤ n ∧ ∀ x ∈ x0 :: xr, DV K H0 n j1 x := by
          cases j with
          | zero => rw [show ds = [] from hok] at hal; simp at hal
          | succ j1 => exact ⟨j1, rfl, by have := hok.1; omega, dv_mem ha hok.2⟩
        obtain ⟨k1, rfl⟩ : ∃ k1, k = k1 + 1 := ⟨k - 1, by omega⟩
        have hq2 : SqL K H q (ns.map V.int) := hq
        obtain ⟨i0, i1, i2, ms, rfl⟩ := three_le (ns := ns) (by omega)
        have hq' : SqL K H q (.int i0 :: .int i1 :: .int i2 :: ms.map V.int) := hq
        have hl2 := hl
        simp only [List.length_cons] at hl2
        clear hq
        (purse 16 => fail)
        refine r_isi2 (d := .list ds) (by (purse 2 => fail)) (by (purse 3 => fail)) (kAny_seq "list" (.inr rfl)) ?_
        (purse 16 => fail)
        exact u_law_odd (ns := (i0 :: i1 :: i2 :: ms).drop 1) (SqL.of upd_same) (by rw [List.length_drop]; omega) fun v' H' h1 h2 => fin _ _ _ (by (purse 1 => fail)) h1 h2
        have hxs : ∀ H', Same H H' → ∀ y ∈ x0 :: xr, DV K (cutH H H0 H') (n + 1) (j1 + 2) y := fun H' h y hy => DV.mono (by omega) (by omega) (DV.same (cut_old (hS0.trans h)) (hm0 y hy))
        obtain ⟨m, hm⟩ := Int.eq_ofNat_of_zero_le (Int.emod_nonneg i1 (b := ((xr.length + 1 : Nat) : Int)) (by omega))
        have hml := Int.emod_lt_of_pos i1 (b := ((xr.length + 1 : Nat) : Int)) (by omega)
        rw [hm] at hml ⊢
        obtain ⟨lA, lB, lC, lD⟩ := cut_lens (x0 :: xr) m (by simp only [List.length_cons]; omega)
        have hxl : (x0 :: xr).length = xr.length + 1 := rfl
        refine s_haltC (SpI K H H0 n j1 (.ref a) q m (i2 % 12)) ?_ ?_
        · intro N hN'
          (purse 16 => fail)
          · exact hN' _ _ ⟨_, _, by (purse 1 => fail), by (purse 7 => fail), upd_same, by rw [List.length_append]; omega, memA (memV (hxs _ (by (purse 1 => fail)))) (memV (hxs _ (by (purse 1 => fail)))), rfl⟩
          · exact hN' _ _ ⟨_, _, by (purse 1 => fail), by (purse 7 => fail), upd_same, by rw [List.length_append]; omega, memA (memV (hxs _ (by (purse 1 => fail)))) (memV (hxs _ (by (purse 1 => fail)))), rfl⟩
          · exact hN' _ _ ⟨_, _, by (purse 1 => fail), by (purse 7 => fail), upd_same, by rw [List.length_append]; omega, memA (memV (hxs _ (by (purse 1 => fail)))) (memV (hxs _ (by (purse 1 => fail)))), rfl⟩
          · refine u_law_odd (ns := (i0 :: i1 :: i2 :: ms).drop 3) (SqL.of (by rw [upd_same, cut_from' _ (by decide)]; rfl)) (by rw [List.length_drop]; omega) fun v3 H3 h3 d3 => ?_
            (purse 16 => fail)
            exact hN' _ _ ⟨_, _, by (purse 1 => fail), by (purse 7 => fail), upd_same, by simp only [List.length_append, List.length_cons, List.length_nil]; omega, memA (memA (memV (hxs _ (by (purse 1 => fail)))) (mem1 (DV.mono (by omega) (by omega) (DV.same ((cut_weak (H0 := H0)).trans (cut_cut (by (purse 1 => fail)) (by (purse 1 => fail)))) d3)))) (memV (hxs _ (by (purse 1 => fail)))), rfl⟩
          · refine r_ixM (by (purse 2 => fail)) (by omega) (by first | omega | (simp only [List.length_cons]; omega)) fun y hy => ?_
            have hpf : H pN = none := by (purse 7 => fail)
            have hpg : H0 pN = none := by (purse 7 => fail)
            (purse 16 => fail)
            refine ⟨y, _, (i0 :: i1 :: i2 :: ms).drop 4, H0, n, j1, rfl, SqL.of (by rw [upd_same, cut_from' _ (by decide), List.map_drop]; rfl), by rw [List.length_drop]; omega, by (purse 1 => fail), hn, by omega, hm0 y hy, fun v4 H4 h4 d4 => ?_⟩
            (purse 16 => fail)
            refine r_setL (j := m) (by (purse 3 => fail)) (ixN_nat (by omega)) ?_
            exact hN' _ _ ⟨_, _, by (purse 1 => fail), by assumption, upd_same, by rw [List.length_set]; omega, memSet (hxs _ (by (purse 1 => fail))) (DV.same (cut_setS (by (purse 1 => fail)) (by (purse 3 => fail)) (by assumption)) d4), rfl⟩
          · exact hN' _ _ ⟨_, _, by (purse 1 => fail), by (purse 7 => fail), by (purse 3 => fail), by simp only [List.length_cons] at hx0 ⊢; omega, hxs _ (by (purse 1 => fail)), rfl⟩
        · rintro σ' H' ⟨l, ys, hS1, hln, hly, hyl, hym, rfl⟩
          (purse 16 => fail)
          · exact kk _ _ hS1 (DV.newL hln hly hyl hym)
          · exact kk _ _ (by (purse 1 => fail)) (DV.newT (by (purse 7 => fail)) upd_same hyl (dvs_same (by (purse 1 => fail)) hym))
  | tuple ds =>
    cases hd with
    | tup hT ha =>
      rename_i a xs
      have hTH := SqT.same hS0 hT
      have hal := DpAll.len ha
      cases xs with
      | nil =>
        (purse 16 => fail)
        refine r_isi2 (d := .tuple ds) (by (purse 2 => fail)) (by (purse 3 => fail)) (kAny_seq "tuple" (.inl rfl)) ?_
        (purse 16 => fail)
        rw [if_pos True.intro]
        (purse 16 => fail)
        exact u_law_odd (ns := ns.drop 1) (SqL.of upd_same) (by rw [List.length_drop]; omega) fun v' H' h1 h2 => fin _ _ _ (by (purse 1 => fail)) h1 h2
      | cons x0 xr =>
        obtain ⟨j1, rfl, hx0, hm0⟩ : ∃ j1, j = j1 + 1 ∧ (x0 :: xr).length ≤ n ∧ ∀ x ∈ x0 :: xr, DV K H0 n j1 x := by
          cases j with
          | zero => rw [show ds = [] from hok] at hal; simp at hal
          | succ j1 => exact ⟨j1, rfl, by have := hok.1; omega, dv_mem ha hok.2⟩
        obtain ⟨k1, rfl⟩ : ∃ k1, k = k1 + 1 := ⟨k - 1, by omega⟩
        have hq2 : SqL K H q (ns.map V.int) := hq
        obtain ⟨i0, i1, i2, ms, rfl⟩ := three_le (ns := ns) (by omega)
        have hq' : SqL K H q (.int i0 :: .int i1 :: .int i2 :: ms.map V.int) := hq
        have hl2 := hl
        simp only [List.length_cons] at hl2
        clear hq
        (purse 16 => fail)
        refine r_isi2 (d := .tuple ds) (by (purse 2 => fail)) (by (purse 3 => fail)) (kAny_seq "tuple" (.inl rfl)) ?_
        (purse 16 => fail)
        exact u_law_odd (ns := (i0 :: i1 :: i2 :: ms).drop 1) (SqL.of upd_same) (by rw [List.length_drop]; omega) fun v' H' h1 h2 => fin _ _ _ (by (purse 1 => fail)) h1 h2
        have hxs : ∀ H', Same H H' → ∀ y ∈ x0 :: xr, DV K (cutH H H0 H') (n + 1) (j1 + 2) y := fun H' h y hy => DV.mono (by omega) (by omega) (DV.same (cut_old (hS0.trans h)) (hm0 y hy))
        obtain ⟨m, hm⟩ := Int.eq_ofNat_of_zero_le (Int.emod_nonneg i1 (b := ((xr.length + 1 : Nat) : Int)) (by omega))
        have hml := Int.emod_lt_of_pos i1 (b := ((xr.length + 1 : Nat) : Int)) (by omega)
        rw [hm] at hml ⊢
        obtain ⟨lA, lB, lC, lD⟩ := cut_lens (x0 :: xr) m (by simp only [List.length_cons]; omega)
        have hxl : (x0 :: xr).length = xr.length + 1 := rfl
        refine s_haltC (SpI K H H0 n j1 (.ref a) q m (i2 % 12)) ?_ ?_
        · intro N hN'
          (purse 16 => fail)
          · exact hN' _ _ ⟨_, _, by (purse 1 => fail), by (purse 7 => fail), upd_same, by rw [List.length_append]; omega, memA (memV (hxs _ (by (purse 1 => fail)))) (memV (hxs _ (by (purse 1 => fail)))), rfl⟩
          · exact hN' _ _ ⟨_, _, by (purse 1 => fail), by (purse 7 => fail), upd_same, by rw [List.length_append]; omega, memA (memV (hxs _ (by (purse 1 => fail)))) (memV (hxs _ (by (purse 1 => fail)))), rfl⟩
          · exact hN' _ _ ⟨_, _, by (purse 1 => fail), by (purse 7 => fail), upd_same, by rw [List.length_append]; omega, memA (memV (hxs _ (by (purse 1 => fail)))) (memV (hxs _ (by (purse 1 => fail)))), rfl⟩
          · refine u_law_odd (ns := (i0 :: i1 :: i2 :: ms).drop 3) (SqL.of (by rw [upd_same, cut_from' _ (by decide)]; rfl)) (by rw [List.length_drop]; omega) fun v3 H3 h3 d3 => ?_
            (purse 16 => fail)
            exact hN' _ _ ⟨_, _, by (purse 1 => fail), by (purse 7 => fail), upd_same, by simp only [List.length_append, List.length_cons, List.length_nil]; omega, memA (memA (memV (hxs _ (by (purse 1 => fail)))) (mem1 (DV.mono (by omega) (by omega) (DV.same ((cut_weak (H0 := H0)).trans (cut_cut (by (purse 1 => fail)) (by (purse 1 => fail)))) d3)))) (memV (hxs _ (by (purse 1 => fail)))), rfl⟩
          · refine r_ixM (by (purse 2 => fail)) (by omega) (by first | omega | (simp only [List.length_cons]; omega)) fun y hy => ?_
            have hpf : H pN = none := by (purse 7 => fail)
            have hpg : H0 pN = none := by (purse 7 => fail)
            (purse 16 => fail)
            refine ⟨y, _, (i0 :: i1 :: i2 :: ms).drop 4, H0, n, j1, rfl, SqL.of (by rw [upd_same, cut_from' _ (by decide), List.map_drop]; rfl), by rw [List.length_drop]; omega, by (purse 1 => fail), hn, by omega, hm0 y hy, fun v4 H4 h4 d4 => ?_⟩
            (purse 16 => fail)
            refine r_setL (j := m) (by (purse 3 => fail)) (ixN_nat (by omega)) ?_
            exact hN' _ _ ⟨_, _, by (purse 1 => fail), by assumption, upd_same, by rw [List.length_set]; omega, memSet (hxs _ (by (purse 1 => fail))) (DV.same (cut_setS (by (purse 1 => fail)) (by (purse 3 => fail)) (by assumption)) d4), rfl⟩
          · exact hN' _ _ ⟨_, _, by (purse 1 => fail), by (purse 7 => fail), by (purse 3 => fail), by simp only [List.length_cons] at hx0 ⊢; omega, hxs _ (by (purse 1 => fail)), rfl⟩
        · rintro σ' H' ⟨l, ys, hS1, hln, hly, hyl, hym, rfl⟩
          (purse 16 => fail)
          · exact kk _ _ hS1 (DV.newL hln hly hyl hym)
          · exact kk _ _ (by (purse 1 => fail)) (DV.newT (by (purse 7 => fail)) upd_same hyl (dvs_same (by (purse 1 => fail)) hym))
theorem ok_law_spoilt {f : Addr} {fd : FuncData} (F : Fun K "_law_spoilt" "_law_spoilt" s_law_spoilt f fd) (c__law_odd : Can P w K mg base 1 "_law_odd" ["picks"] (sp_law_odd K)) (z_tuple : mg "tuple" = none) (z_isinstance : mg "isinstance" = none) (z_len : mg "len" = none) (z_list : mg "list" = none) (b_self : Binds K fd ["thing", "picks"] []) (m_self : mg "_law_spoilt" = some (.ref f)) : FnOk P w K mg base CX0 7 f fd ["thing", "picks"] (sp_law_spoilt K) := by
  have h0 : FnOk P w K mg base CX0 2 f fd ["thing", "picks"] (spS K 0) := F.ok sc_law_spoilt (fun _ _ _ _ h => h.elim) (fun _ _ _ _ _ _ _ _ _ h => h.elim)
  have h1 := ok_spoiltS 0 F (c__law_odd := c__law_odd) (z_isinstance := z_isinstance) (z_len := z_len) (z_list := z_list) (z_tuple := z_tuple) (b_self := b_self) (m_self := m_self) (c_self := .mk' F h0 b_self m_self)
  have h2 := ok_spoiltS 1 F (c__law_odd := c__law_odd) (z_isinstance := z_isinstance) (z_len := z_len) (z_list := z_list) (z_tuple := z_tuple) (b_self := b_self) (m_self := m_self) (c_self := .mk' F h1 b_self m_self)
  have h3 := ok_spoiltS 2 F (c__law_odd := c__law_odd) (z_isinstance := z_isinstance) (z_len := z_len) (z_list := z_list) (z_tuple := z_tuple) (b_self := b_self) (m_self := m_self) (c_self := .mk' F h2 b_self m_self)
  have h4 := ok_spoiltS 3 F (c__law_odd := c__law_odd) (z_isinstance := z_isinstance) (z_len := z_len) (z_list := z_list) (z_tuple := z_tuple) (b_self := b_self) (m_self := m_self) (c_self := .mk' F h3 b_self m_self)
  exact ok_spoiltS 4 F (c__law_odd := c__law_odd) (z_isinstance := z_isinstance) (z_len := z_len) (z_list := z_list) (z_tuple := z_tuple) (b_self := b_self) (m_self := m_self) (c_self := .mk' F h4 b_self m_self)
end
end
section

section
variable {P : Program} {w : World} {K : PySem.W.Frag} {mg : Str → Option Value} {base : Heap}
theorem ok_law_from {f : Addr} {fd : FuncData} (F : Fun K "_law_from" "_law_from" s_law_from f fd) (z_isinstance : mg "isinstance" = none) (z_bool : mg "bool" = none) (z_int : mg "int" = none) :
    FnOk P w K mg base CX0 1 f fd ["thing", "least", "top"] (sp_law_from K) := by
  refine F.ok sc_law_from (fun vs H Q E h => sp_law_from_len h) (fun cdv A outer s H vs Q E hr h => ?_)
  obtain ⟨v, lo, hi, d, rfl, hd, k⟩ := h
  refine ⟨_, (pss_one (ps_ret (pe_and (pe_callB (kisi K) (by rfl) z_isinstance (by decide +kernel) (pa_cons (pv 0) (pa_cons (pe_bltn (v := .ty "int") (by rfl) z_int (by decide +kernel) rfl) pa_nil))) (pe_and (pe_not (pe_callB (kisi K) (by rfl) z_isinstance (by decide +kernel) (pa_cons (pv 0) (pa_cons (pe_bltn (v := .ty "bool") (by rfl) z_bool (by decide +kernel) rfl) pa_nil)))) (pe_and (pe_cmpR op_le (pv 1) (pv 0) (nomark _)) (pe_one (pe_cmpR op_le (pv 0) (pv 2) (nomark _)))))))), ?_⟩
  cases d with
  | int i =>
    cases hd
    (purse 16 => fail)
    all_goals (refine qbl ?_ (k _ (Same.refl _)); simp [isIntD, hc])
  | none => (purse 16 => fail); exact k _ (Same.refl _)
  | bool b => (purse 16 => fail); exact k _ (Same.refl _)
  | str b => (purse 16 => fail); exact k _ (Same.refl _)
  | list b => (purse 16 => fail); exact k _ (Same.refl _)
  | tuple b => (purse 16 => fail); exact k _ (Same.refl _)
  | dict b => cases hd
end
end
section
local macro_rules | `(tactic| purse 99 => fail) => `(tactic| (first | ((with_reducible refine' u_law_draws ?_); intro q2 ds2 H2 h2 n2 l2 e2 b2) | ((with_reducible refine' u_law_cell_at ?rdA ?rdB ?_); (case rdA => (purse 2 => fail)); (case rdB => omega); intro r2 H2 h2)))
section
variable {P : Program} {w : World} {K : PySem.W.Frag} {mg : Str → Option Value} {base : Heap}
theorem ok_law_bag {f : Addr} {fd : FuncData} (F : Fun K "_law_bag" "_law_bag" s_law_bag f fd) (c__law_draws : Can P w K mg base 1 "_law_draws" ["cell", "many", "size"] (sp_law_draws K)) (c__law_cell_at : Can P w K mg base 1 "_law_cell_at" ["script", "k"] (sp_law_cell_at K)) :
    FnOk P w K mg base CX0 2 f fd ["script", "k"] (sp_law_bag K) := by
  refine F.ok sc_law_bag (fun vs H Q E h => sp_law_bag_len h) (fun cdv A outer s H vs Q E hr h => ?_)
  obtain ⟨a, ns, x, rfl, hS, b, k⟩ := h
  refine ⟨_, (pss_one (ps_ret (pe_lst (pa_cons (pe_can c__law_draws (hr.mono (by decide)) (by rfl) (pa_cons (pe_can c__law_cell_at (hr.mono (by decide)) (by rfl) (pa_cons (pv 0) (pa_cons (pv 1) pa_nil))) (pa_cons pe_int (pa_cons pe_int pa_nil)))) (pa_cons pe_int pa_nil))))), ?_⟩
  (purse 16 => fail)
  have nb : q2 ≠ pN := ne_of_none l2 hN
  refine k _ q2 _ (by (purse 1 => fail)) (Same.free (by (purse 1 => fail)) hN) (Same.free (by (purse 1 => fail)) n2) ⟨nb, 0, ds2, upd_same, by (purse 3 => fail), e2, b2, Int.le_refl _⟩
end
end
section
local macro_rules | `(tactic| purse 99 => fail) => `(tactic| (first | ((with_reducible refine' u_law_bag ?rdA ?rdB ?_); (case rdA => (purse 2 => fail)); (case rdB => omega); intro b2 d2 H2 h2 n2 nd0 bg2)))
section
variable {P : Program} {w : World} {K : PySem.W.Frag} {mg : Str → Option Value} {base : Heap}
theorem ok_law_bags {f : Addr} {fd : FuncData} (F : Fun K "_law_bags" "_law_bags" s_law_bags f fd) (c__law_bag : Can P w K mg base 2 "_law_bag" ["script", "k"] (sp_law_bag K)) (z_range : mg "range" = none) (z_max : mg "max" = none) (z_min : mg "min" = none) (z_len : mg "len" = none) :
    FnOk P w K mg base CX0 3 f fd ["script", "limit"] (sp_law_bags K) := by
  refine F.ok sc_law_bags (fun vs H Q E h => sp_law_bags_len h) (fun cdv A outer s H vs Q E hr h => ?_)
  obtain ⟨a, ns, x, rfl, hS, b, k⟩ := h
  refine ⟨_, (pss_one (ps_ret (pe_lc (own := [("k", 2)]) (by rfl) sc_law_bags.nd (pi_range1 (by rfl) z_range (pa_cons (pe_callB kmax2 (by rfl) z_max (by decide +kernel) (pa_cons pe_int (pa_cons (pe_callB kmin2 (by rfl) z_min (by decide +kernel) (pa_cons (pv 1) (pa_cons (pe_callB (klen K) (by rfl) z_len (by decide +kernel) (pa_cons (pv 0) pa_nil)) pa_nil))) pa_nil))) pa_nil)) (blkOk_by (own := [("k", 2)]) (N := n_law_bags) (sc := defScope s_law_bags) (by decide +kernel)) (fun _ _ _ _ _ => (pg_name (i := 2) sc_law_bags.nd rfl (Or.inl rfl))) (fun _ _ _ _ _ => pts_nil) (fun _ _ _ _ _ => (pe_can c__law_bag (hr.mono (by decide)) (by rfl) (pa_cons (pv 0) (pa_cons (pv 2) pa_nil))))))), ?_⟩
  (purse 16 => fail)
  generalize hn : (if (if (ns.length : Int) < x then (ns.length : Int) else x) > 1 then if (ns.length : Int) < x then (ns.length : Int) else x else 1).toNat = n
  have hn10 : n ≤ 10 := by omega
  refine fun D hD => lc_range (lo := 0) (n := n) (fun i H' => ∃ bs : List (Addr × Addr), bs.length = i ∧ Same H H' ∧ BagsAt H' D bs ∧ (∀ p ∈ bs, D ≠ p.2)) ?_ ?_ ?_
  · exact ⟨[], rfl, Same.up (Same.refl _) hD, ⟨upd_same, by simp, List.Pairwise.nil, by simp⟩, by simp⟩
  · rintro i H' hi ⟨bs, hbl, hS', ⟨b1, b2', b3, b4⟩, hf⟩
    refine ⟨rfl, ?_⟩
    (purse 16 => fail)
    have nb : D ≠ b2 := ne_of_none b1 n2
    have nd : D ≠ d2 := ne_of_none b1 nd0
    refine ⟨_, by (purse 3 => fail), ?_, bs ++ [(b2, d2)], by rw [List.length_append, hbl]; rfl, by (purse 1 => fail), ⟨?_, ?_, ?_, ?_⟩, ?_⟩
    · exact sz_lt (by rw [List.length_map]; omega)
    · rw [upd_same, List.map_append]; rfl
    · intro p hp
      rcases List.mem_append.mp hp with h | h
      · exact ((b2' p h).hs h2).hn (b4 p h) (hf p h)
      · rw [List.mem_singleton.mp h]
        exact bg2.hn nb nd
    · rw [List.pairwise_append]
      refine ⟨b3, List.pairwise_singleton _ _, fun p hp r hr => ?_⟩
      rw [List.mem_singleton.mp hr]
      exact ⟨(b2' p hp).neb n2, (b2' p hp).neb nd0⟩
    · intro p hp
      rcases List.mem_append.mp hp with h | h
      · exact b4 p h
      · rw [List.mem_singleton.mp h]; exact nb
    · intro p hp
      rcases List.mem_append.mp hp with h | h
      · exact hf p h
      · rw [List.mem_singleton.mp h]; exact nd
  · rintro H' ⟨bs, hbl, hS', hb, hf⟩
    exact k _ bs _ hS' hD hb
end
end
section

section
variable {P : Program} {w : World} {K : PySem.W.Frag} {mg : Str → Option Value} {base : Heap}
theorem ok_law_take {f : Addr} {fd : FuncData} (F : Fun K "_law_take" "_law_take" s_law_take f fd) (z_len : mg "len" = none) :
    FnOk P w K mg base CX0 1 f fd ["bag", "many"] (sp_law_take K) := by
  refine F.ok sc_law_take (fun vs H Q E h => sp_law_take_len h) (fun cdv A outer s H vs Q E hr h => ?_)
  obtain ⟨b, d, m, rfl, ⟨ne, n, ds, hb, hd, hl, hz, hn⟩, hm, k⟩ := h
  refine ⟨_, (pss_cons (ps_asg (pe_op op_add (pe_ix (kix_list K) (pv 0) pe_int (fun _ _ => rfl)) pe_int) (pg_sub (pv 0) pe_int set_list)) (pss_one (ps_ret (pe_op op_mod (pe_ix (kix_list K) (pe_ix (kix_list K) (pv 0) pe_int (fun _ _ => rfl)) (pe_op op_mod (pe_ix (kix_list K) (pv 0) pe_int (fun _ _ => rfl)) (pe_callB (klen K) (by rfl) z_len (by decide +kernel) (pa_cons (pe_ix (kix_list K) (pv 0) pe_int (fun _ _ => rfl)) pa_nil))) (fun _ _ => rfl)) (pv 1))))), ?_⟩
  have hB : SqL K H b [.ref d, .int n] := SqL.of hb
  have hd1 : L2.upd H b (HO.lst ([V.ref d, V.int n].set (Int.toNat 1) (V.int (n + 1)))) d = some (.lst (ds.map V.int)) := HAt.hn ne hd
  (purse 16 => fail)
  have m1 := Int.emod_nonneg (n + 1) (b := (ds.length : Int)) (by omega)
  have m2 := Int.emod_lt_of_pos (n + 1) (b := (ds.length : Int)) (by omega)
  have hi : ((n + 1) % (ds.length : Int)).toNat < ds.length := by omega
  refine r_ixL (SqL.of hd1) (v := .int ds[((n + 1) % (ds.length : Int)).toNat]) (at_of (j := ((n + 1) % (ds.length : Int)).toNat) (by omega) (by rw [List.getElem?_map, List.getElem?_eq_getElem hi]; rfl)) ?_
  (purse 16 => fail)
  refine k _ _ ⟨fun a o na e => HAt.hn na e, (TKeep.refl).upL hb, ⟨ne, n + 1, ds, upd_same, hd1, hl, hz, by omega⟩⟩ (Int.emod_nonneg _ (by omega)) (Int.emod_lt_of_pos _ hm)
end
end
section
local macro_rules | `(tactic| purse 99 => fail) => `(tactic| (first | ((with_reducible refine' u_law_take (K := K) ?rdA ?rdB ?_); (case rdA => (purse 2 => fail)); (case rdB => omega); intro r2 H2 h2 r2l r2u)))
section
variable {P : Program} {w : World} {K : PySem.W.Frag} {mg : Str → Option Value} {base : Heap}
theorem ok_law_far_draw {f : Addr} {fd : FuncData} (F : Fun K "_law_far_draw" "_law_far_draw" s_law_far_draw f fd) (c__law_take : Can P w K mg base 1 "_law_take" ["bag", "many"] (sp_law_take K)) :
    FnOk P w K mg base CX0 2 f fd ["bag", "many"] (sp_law_far_draw K) := by
  refine F.ok sc_law_far_draw (fun vs H Q E h => sp_law_far_draw_len h) (fun cdv A outer s H vs Q E hr h => ?_)
  obtain ⟨b, d, m, rfl, hb, hm, k⟩ := h
  refine ⟨_, (pss_cons (ps_par (i := 2) (j := 3) (by rfl) sc_law_far_draw.nd rfl rfl (by decide) rfl rfl (pa_cons pe_int (pa_cons (pv 1) pa_nil)) (by rfl)) (pss_cons (ps_while PassesOwn.never (pt_cmpR op_gt (pv 3) pe_int (nomark _)) (pss_one (ps_par (i := 2) (j := 3) (by rfl) sc_law_far_draw.nd rfl rfl (by decide) rfl rfl (pa_cons (pe_op op_add (pe_op op_mul pe_int (pv 2)) (pe_can c__law_take (hr.mono (by decide)) (by rfl) (pa_cons (pv 0) (pa_cons pe_int pa_nil)))) (pa_cons (pe_op op_fdiv (pv 3) pe_int) pa_nil)) (by rfl)))) (pss_one (ps_ret (pe_ix (kix_list K) (pe_lst (pa_cons (pe_op op_mod (pv 2) (pv 1)) (pa_cons pe_int (pa_cons (pe_op op_sub (pv 1) pe_int) (pa_cons (pe_op op_mod (pv 2) (pv 1)) pa_nil))))) (pe_can c__law_take (hr.mono (by decide)) (by rfl) (pa_cons (pv 0) (pa_cons pe_int pa_nil))) (fun _ _ => rfl)))))), ?_⟩
  (purse 16 => fail)
  refine s_while (fun n σ' H' => Bs K b d H H' ∧ ∃ f u : Int, n = u.toNat ∧ σ' = [some (.ref b), some (.int m), some (.int f), some (.int u)]) _ ⟨Bs.refl hb, _, _, rfl, rfl⟩ ?_
  rintro n σ' H' ⟨hB, f, u, rfl, rfl⟩
  have hb' := hB.bag
  (purse 16 => fail)
  · refine ⟨fun σ3 H3 => Bs K b d H H3 ∧ ∃ f3 : Int, σ3 = [some (.ref b), some (.int m), some (.int f3), some (.int (u / 1000))], ?_, ?_⟩
    · rintro σ3 H3 ⟨h3, f3, rfl⟩
      exact ⟨(u / 1000).toNat, by omega, h3, f3, _, rfl, rfl⟩
    · (purse 16 => fail)
      exact ⟨by (purse 6 => fail), _, rfl⟩
  · have fm := emod_b (x := f) hm
    (purse 16 => fail)
    obtain ⟨z, hz, z0, z1⟩ := pick4 r2l r2u (lo := 0) (hi := m - 1) (a := f % m) (b := 0) (c := m - 1) (e := f % m) (by omega) (by omega) (by omega) (by omega)
    refine r_ixL (by (purse 2 => fail)) hz ?_
    exact k _ _ (by (purse 6 => fail)) (by omega) (by omega)
end
end
section

section
variable {P : Program} {w : World} {K : PySem.W.Frag} {mg : Str → Option Value} {base : Heap}
theorem ok_law_odd {f : Addr} {fd : FuncData} (F : Fun K "_law_odd" "_law_odd" s_law_odd f fd) (z_len : mg "len" = none) :
    FnOk P w K mg base CX0 1 f fd ["picks"] (sp_law_odd K) := by
  refine F.ok sc_law_odd (fun vs H Q E h => sp_law_odd_len h) (fun cdv A outer s H vs Q E hr h => ?_)
  obtain ⟨q, ns, rfl, hq, hl, k⟩ := h
  obtain ⟨a, b, ms, rfl⟩ := two_le hl
  have hq' : SqL K H q (.int a :: .int b :: ms.map V.int) := hq
  clear hq
  refine ⟨_, (pss_cons (ps_set (i := 1) sc_law_odd.nd rfl (Or.inl rfl) (pe_lst (pa_cons pe_non (pa_cons pe_bl (pa_cons pe_bl (pa_cons (pe_un un_neg pe_int) (pa_cons pe_int (pa_cons pe_int (pa_cons pe_int (pa_cons pe_int (pa_cons pe_int pa_nil))))))))))) (pss_cons (ps_halt (ps_set (i := 1) sc_law_odd.nd rfl (Or.inl rfl) (pe_op op_cat (pv 1) (pe_lst (pa_cons pe_int (pa_cons pe_int (pa_cons (pe_op op_add (pe_op op_pow pe_int pe_int) pe_int) (pa_cons (pe_op op_add (pe_op op_pow pe_int pe_int) pe_int) (pa_cons (pe_op op_pow pe_int pe_int) (pa_cons pe_str (pa_cons pe_str (pa_cons pe_str pa_nil)))))))))))) (pss_cons (ps_halt (ps_set (i := 1) sc_law_odd.nd rfl (Or.inl rfl) (pe_op op_cat (pv 1) (pe_lst (pa_cons (pe_tup pa_nil) (pa_cons (pe_lst pa_nil) (pa_cons (pe_tup (pa_cons pe_str (pa_cons pe_int pa_nil))) (pa_cons (pe_tup (pa_cons pe_str (pa_cons pe_int (pa_cons pe_int (pa_cons pe_int pa_nil))))) pa_nil)))))))) (pss_cons (ps_halt (ps_set (i := 1) sc_law_odd.nd rfl (Or.inl rfl) (pe_op op_cat (pv 1) (pe_lst (pa_cons (pe_tup (pa_cons (pe_tup (pa_cons pe_str (pa_cons pe_int pa_nil))) pa_nil)) (pa_cons (pe_lst (pa_cons (pe_tup (pa_cons pe_str (pa_cons pe_int pa_nil))) pa_nil)) (pa_cons (pe_tup (pa_cons pe_str pa_nil)) (pa_cons (pe_tup (pa_cons pe_str (pa_cons pe_int (pa_cons pe_int (pa_cons pe_int pa_nil))))) pa_nil)))))))) (pss_cons (ps_halt (ps_set (i := 1) sc_law_odd.nd rfl (Or.inl rfl) (pe_op op_cat (pv 1) (pe_lst (pa_cons (pe_tup (pa_cons pe_str (pa_cons pe_int (pa_cons pe_int (pa_cons pe_int pa_nil))))) (pa_cons (pe_tup (pa_cons pe_str (pa_cons pe_int (pa_cons pe_int (pa_cons pe_int pa_nil))))) (pa_cons (pe_tup (pa_cons pe_str (pa_cons pe_int pa_nil))) (pa_cons (pe_tup (pa_cons pe_non pa_nil)) pa_nil)))))))) (pss_cons (ps_halt (ps_set (i := 1) sc_law_odd.nd rfl (Or.inl rfl) (pe_op op_cat (pv 1) (pe_lst (pa_cons (pe_tup (pa_cons pe_int (pa_cons pe_int pa_nil))) (pa_cons (pe_tup (pa_cons (pe_tup (pa_cons pe_int (pa_cons pe_int pa_nil))) pa_nil)) (pa_cons pe_str (pa_cons (pe_tup (pa_cons (pe_tup (pa_cons pe_int (pa_cons pe_int pa_nil))) (pa_cons (pe_tup (pa_cons pe_int (pa_cons pe_int pa_nil))) pa_nil))) pa_nil)))))))) (pss_one (ps_ret (pe_ix (kix_list K) (pv 1) (pe_op op_mod (pe_op op_add (pe_ix (kix_list K) (pv 0) pe_int (fun _ _ => rfl)) (pe_op op_mul pe_int (pe_ix (kix_list K) (pv 0) pe_int (fun _ _ => rfl)))) (pe_callB (klen K) (by rfl) z_len (by decide +kernel) (pa_cons (pv 1) pa_nil))) (fun _ _ => rfl)))))))))), ?_⟩
  (purse 16 => fail)
  refine s_haltC (OddI K H q 17) ?_ ?_
  · intro N hN'
    (purse 16 => fail)
    refine r_p30 ?_
    (purse 16 => fail)
    refine hN' _ _ ⟨_, _, by (purse 1 => fail), upd_same, rfl, memA (DV.scas (by decide +kernel)) (DV.scas (by decide +kernel)), rfl⟩
  rintro σ' H1 ⟨p1, xs1, hS1, hp1, hl1, hm1, rfl⟩
  (purse 16 => fail)
  refine s_haltC (OddI K H q 21) ?_ ?_
  · intro N hN'
    (purse 16 => fail)
    refine hN' _ _ ⟨_, _, by (purse 1 => fail), upd_same, by rw [List.length_append, hl1]; rfl, memA (dvs_same (by (purse 1 => fail)) hm1) (memC (DV.sT (by (purse 7 => fail)) (by (purse 3 => fail)) (by decide) (by decide +kernel)) (memC (DV.newL (by (purse 7 => fail)) (by (purse 3 => fail)) (by simp) (mem0)) (memC (DV.sT (by (purse 7 => fail)) (by (purse 3 => fail)) (by decide) (by decide +kernel)) (mem1 (DV.sT (by (purse 7 => fail)) (by (purse 3 => fail)) (by decide) (by decide +kernel)))))), rfl⟩
  rintro σ' H2 ⟨p2, xs2, hS2, hp2, hl2, hm2, rfl⟩
  (purse 16 => fail)
  refine s_haltC (OddI K H q 25) ?_ ?_
  · intro N hN'
    (purse 16 => fail)
    refine hN' _ _ ⟨_, _, by (purse 1 => fail), upd_same, by rw [List.length_append, hl2]; rfl, memA (dvs_same (by (purse 1 => fail)) hm2) (memC (DV.newT (by (purse 7 => fail)) (by (purse 3 => fail)) (by simp) (mem1 (DV.sT (by (purse 7 => fail)) (by (purse 3 => fail)) (by decide) (by decide +kernel)))) (memC (DV.newL (by (purse 7 => fail)) (by (purse 3 => fail)) (by simp) (mem1 (DV.sT (by (purse 7 => fail)) (by (purse 3 => fail)) (by decide) (by decide +kernel)))) (memC (DV.sT (by (purse 7 => fail)) (by (purse 3 => fail)) (by decide) (by decide +kernel)) (mem1 (DV.sT (by (purse 7 => fail)) (by (purse 3 => fail)) (by decide) (by decide +kernel)))))), rfl⟩
  rintro σ' H3 ⟨p3, xs3, hS3, hp3, hl3, hm3, rfl⟩
  (purse 16 => fail)
  refine s_haltC (OddI K H q 29) ?_ ?_
  · intro N hN'
    (purse 16 => fail)
    refine hN' _ _ ⟨_, _, by (purse 1 => fail), upd_same, by rw [List.length_append, hl3]; rfl, memA (dvs_same (by (purse 1 => fail)) hm3) (memC (DV.sT (by (purse 7 => fail)) (by (purse 3 => fail)) (by decide) (by decide +kernel)) (memC (DV.sT (by (purse 7 => fail)) (by (purse 3 => fail)) (by decide) (by decide +kernel)) (memC (DV.sT (by (purse 7 => fail)) (by (purse 3 => fail)) (by decide) (by decide +kernel)) (mem1 (DV.sT (by (purse 7 => fail)) (by (purse 3 => fail)) (by decide) (by decide +kernel)))))), rfl⟩
  rintro σ' H4 ⟨p4, xs4, hS4, hp4, hl4, hm4, rfl⟩
  (purse 16 => fail)
  refine s_haltC (OddI K H q 33) ?_ ?_
  · intro N hN'
    (purse 16 => fail)
    refine hN' _ _ ⟨_, _, by (purse 1 => fail), upd_same, by rw [List.length_append, hl4]; rfl, memA (dvs_same (by (purse 1 => fail)) hm4) (memC (DV.sT (by (purse 7 => fail)) (by (purse 3 => fail)) (by decide) (by decide +kernel)) (memC (DV.newT (by (purse 7 => fail)) (by (purse 3 => fail)) (by simp) (mem1 (DV.sT (by (purse 7 => fail)) (by (purse 3 => fail)) (by decide) (by decide +kernel)))) (memC (DV.sca (by decide +kernel)) (mem1 (DV.newT (by (purse 7 => fail)) (by (purse 3 => fail)) (by simp) (memC (DV.sT (by (purse 7 => fail)) (by (purse 3 => fail)) (by decide) (by decide +kernel)) (mem1 (DV.sT (by (purse 7 => fail)) (by (purse 3 => fail)) (by decide) (by decide +kernel))))))))), rfl⟩
  rintro σ' H5 ⟨p5, xs5, hS5, hp5, hl5, hm5, rfl⟩
  (purse 16 => fail)
  refine r_ixM (SqL.of hp5) (Int.emod_nonneg _ (by omega)) (Int.emod_lt_of_pos _ (by omega)) fun y hy => ?_
  exact k _ _ hS5 (hm5 y hy)
end
end
section

section
variable {P : Program} {w : World} {K : PySem.W.Frag} {mg : Str → Option Value} {base : Heap}
theorem ok_law_step_period {f : Addr} {fd : FuncData} (F : Fun K "_law_step_period" "_law_step_period" s_law_step_period f fd)  :
    FnOk P w K mg base CX0 1 f fd ["step"] (sp_law_step_period K) := by
  refine F.ok sc_law_step_period (fun vs H Q E h => sp_law_step_period_len h) (fun cdv A outer s H vs Q E hr h => ?_)
  obtain ⟨v, st, rfl, ⟨a, rfl, hS⟩, hp, k⟩ := h
  refine ⟨_, (pss_cons (ps_if (pt_cmpR op_eq (pe_ix (kix_tup K) (pv 0) pe_int (fun _ _ => rfl)) pe_str (nomark _)) (pss_one (ps_ret (pe_ix (kix_tup K) (pv 0) pe_int (fun _ _ => rfl)))) pss_nil) (pss_one (ps_ret (pe_ifExp (pt_cmpR op_eq (pe_op op_mod (pe_ix (kix_tup K) (pv 0) pe_int (fun _ _ => rfl)) pe_int) pe_int (nomark _)) (pe_op op_mul pe_int (pe_ix (kix_tup K) (pv 0) pe_int (fun _ _ => rfl))) (pe_ix (kix_tup K) (pv 0) pe_int (fun _ _ => rfl)))))), ?_⟩
  cases st with
  | sc ks m c =>
    (purse 16 => fail)
    exact k _ (by (purse 1 => fail))
  | ev m =>
    (purse 16 => fail)
    · exact qint (by simp [Step.per, hc]) (k _ (by (purse 1 => fail)))
    · exact qint (by simp [Step.per, hc]) (k _ (by (purse 1 => fail)))
end
end
section
local macro_rules | `(tactic| purse 99 => fail) => `(tactic| (first | ((with_reducible refine' u_law_take (K := K) ?rdA ?rdB ?_); (case rdA => (purse 2 => fail)); (case rdB => omega); intro r2 H2 h2 r2l r2u) | ((with_reducible refine' u_law_far_draw (K := K) ?rdA ?rdB ?_); (case rdA => (purse 2 => fail)); (case rdB => omega); intro r2 H2 h2 r2l r2u)))
section
variable {P : Program} {w : World} {K : PySem.W.Frag} {mg : Str → Option Value} {base : Heap}
theorem ok_law_step {f : Addr} {fd : FuncData} (F : Fun K "_law_step" "_law_step" s_law_step f fd) (c__law_take : Can P w K mg base 1 "_law_take" ["bag", "many"] (sp_law_take K)) (c__law_far_draw : Can P w K mg base 2 "_law_far_draw" ["bag", "many"] (sp_law_far_draw K)) (z_min : mg "min" = none) :
    FnOk P w K mg base CX0 3 f fd ["bag", "limit"] (sp_law_step K) := by
  refine F.ok sc_law_step (fun vs H Q E h => sp_law_step_len h) (fun cdv A outer s H vs Q E hr h => ?_)
  obtain ⟨b, d, l, rfl, hb, hl, k⟩ := h
  refine ⟨_, (pss_cons (ps_if (PW.pt (pw_and (pt_cmpR op_eq (pe_can c__law_take (hr.mono (by decide)) (by rfl) (pa_cons (pv 0) (pa_cons pe_int pa_nil))) pe_int (nomark _)) (pw_and1 (pt_cmpR op_gt (pv 1) pe_int (nomark _))))) (pss_cons (ps_set (i := 2) sc_law_step.nd rfl (Or.inl rfl) (pe_op op_add pe_int (pe_can c__law_take (hr.mono (by decide)) (by rfl) (pa_cons (pv 0) (pa_cons (pe_callB kmin2 (by rfl) z_min (by decide +kernel) (pa_cons (pv 1) (pa_cons pe_int pa_nil))) pa_nil))))) (pss_one (ps_ret (pe_tup (pa_cons pe_str (pa_cons (pe_ifExp (PW.pt (pw_or (pt_cmpR op_eq (pe_op op_mod (pv 2) pe_int) pe_int (nomark _)) (pw_or1 (pt_cmpR op_le (pe_op op_mul pe_int (pv 2)) (pv 1) (nomark _))))) (pv 2) (pe_op op_fdiv (pv 2) pe_int)) pa_nil)))))) pss_nil) (pss_cons (ps_set (i := 3) sc_law_step.nd rfl (Or.inl rfl) (pe_op op_add pe_int (pe_can c__law_take (hr.mono (by decide)) (by rfl) (pa_cons (pv 0) (pa_cons (pe_ix (kix_list K) (pe_lst (pa_cons pe_int (pa_cons pe_int (pa_cons pe_int pa_nil)))) (pe_can c__law_take (hr.mono (by decide)) (by rfl) (pa_cons (pv 0) (pa_cons pe_int pa_nil))) (fun _ _ => rfl)) pa_nil))))) (pss_cons (ps_set (i := 2) sc_law_step.nd rfl (Or.inl rfl) (pe_op op_add pe_int (pe_can c__law_take (hr.mono (by decide)) (by rfl) (pa_cons (pv 0) (pa_cons (pe_callB kmin2 (by rfl) z_min (by decide +kernel) (pa_cons (pv 1) (pa_cons (pe_ix (kix_list K) (pe_lst (pa_cons pe_int (pa_cons pe_int (pa_cons pe_int pa_nil)))) (pe_can c__law_take (hr.mono (by decide)) (by rfl) (pa_cons (pv 0) (pa_cons pe_int pa_nil))) (fun _ _ => rfl)) pa_nil))) pa_nil))))) (pss_cons (ps_set (i := 4) sc_law_step.nd rfl (Or.inl rfl) (pe_op op_sub (pe_can c__law_far_draw (hr.mono (by decide)) (by rfl) (pa_cons (pv 0) (pa_cons (pe_op op_add (pe_op op_mul pe_int (pe_op op_pow pe_int pe_int)) pe_int) pa_nil))) (pe_op op_pow pe_int pe_int))) (pss_cons (ps_set (i := 5) sc_law_step.nd rfl (Or.inl rfl) (pe_ix (kix_list K) (pe_lst (pa_cons pe_int (pa_cons (pe_can c__law_take (hr.mono (by decide)) (by rfl) (pa_cons (pv 0) (pa_cons pe_int pa_nil))) (pa_cons (pe_op op_sub (pe_can c__law_take (hr.mono (by decide)) (by rfl) (pa_cons (pv 0) (pa_cons pe_int pa_nil))) pe_int) (pa_cons (pv 4) pa_nil))))) (pe_can c__law_take (hr.mono (by decide)) (by rfl) (pa_cons (pv 0) (pa_cons pe_int pa_nil))) (fun _ _ => rfl))) (pss_one (ps_ret (pe_tup (pa_cons pe_str (pa_cons (pv 3) (pa_cons (pv 2) (pa_cons (pv 5) pa_nil)))))))))))), ?_⟩
  (purse 16 => fail)
  · refine k _ (.ev _) _ (by (purse 6 => fail)) ⟨_, rfl, SqT.new⟩ ⟨by omega, by omega⟩ (fun _ _ _ z => nomatch z)
  · refine k _ (.ev _) _ (by (purse 6 => fail)) ⟨_, rfl, SqT.new⟩ ⟨by omega, by omega⟩ (fun _ _ _ z => nomatch z)
  · refine k _ (.ev _) _ (by (purse 6 => fail)) ⟨_, rfl, SqT.new⟩ ⟨by omega, by omega⟩ (fun _ _ _ z => nomatch z)
  all_goals
    refine r_pick3 (lo := 1) (hi := 120) (by (purse 2 => fail)) r2l r2u (by omega) (by omega) (by omega) fun z z0 z1 => ?_
    (purse 16 => fail)
    refine r_pick3 (lo := 1) (hi := 120) (by (purse 2 => fail)) r2l r2u (by omega) (by omega) (by omega) fun z' z0' z1' => ?_
    (purse 16 => fail)
    refine r_pick4 (lo := -1000000000) (hi := 1000000000) (by (purse 2 => fail)) r2l r2u (by omega) (by omega) (by omega) (by omega) fun c c0 c1 => ?_
    (purse 16 => fail)
    exact k _ (.sc _ _ _) _ (by (purse 6 => fail)) ⟨_, rfl, SqT.new⟩ ⟨⟨by omega, by omega⟩, ⟨by omega, by omega⟩, ⟨by omega, by omega⟩⟩ (by intro k m c e; cases e; omega)
end
end
section
local macro_rules | `(tactic| purse 99 => fail) => `(tactic| (first | ((with_reducible refine' u_law_take (K := K) ?rdA ?rdB ?_); (case rdA => (purse 2 => fail)); (case rdB => omega); intro r2 H2 h2 r2l r2u) | ((with_reducible refine' u_law_step_period ?rdA ?rdB ?_); (case rdA => (purse 2 => fail)); (case rdB => assumption); intro H2 h2) | ((with_reducible refine' u_law_step (K := K) ?rdA ?rdB ?_); (case rdA => (purse 2 => fail)); (case rdB => omega); intro v2 s2 H2 h2 t2 o2 l2)))
section
variable {P : Program} {w : World} {K : PySem.W.Frag} {mg : Str → Option Value} {base : Heap}
theorem ok_law_pipeline {f : Addr} {fd : FuncData} (F : Fun K "_law_pipeline" "_law_pipeline" s_law_pipeline f fd) (c__law_take : Can P w K mg base 1 "_law_take" ["bag", "many"] (sp_law_take K)) (c__law_step_period : Can P w K mg base 1 "_law_step_period" ["step"] (sp_law_step_period K)) (c__law_step : Can P w K mg base 3 "_law_step" ["bag", "limit"] (sp_law_step K)) (z_tuple : mg "tuple" = none) (z_range : mg "range" = none) :
    FnOk P w K mg base CX0 4 f fd ["bag", "most", "limit"] (sp_law_pipeline K) := by
  refine F.ok sc_law_pipeline (fun vs H Q E h => sp_law_pipeline_len h) (fun cdv A outer s H vs Q E hr h => ?_)
  obtain ⟨b, d, m, l, rfl, hb, hm, hl, k⟩ := h
  refine ⟨_, (pss_cons (ps_par (i := 3) (j := 4) (by rfl) sc_law_pipeline.nd rfl rfl (by decide) rfl rfl (pa_cons (pe_lst pa_nil) (pa_cons (pv 2) pa_nil)) (by rfl)) (pss_cons (ps_for PassesOwn.never rfl (pi_range1 (by rfl) z_range (pa_cons (pe_can c__law_take (hr.mono (by decide)) (by rfl) (pa_cons (pv 0) (pa_cons (pe_op op_add (pv 1) pe_int) pa_nil))) pa_nil)) (pg_name (i := 5) sc_law_pipeline.nd rfl (Or.inl rfl)) (pss_cons (ps_set (i := 6) sc_law_pipeline.nd rfl (Or.inl rfl) (pe_can c__law_step (hr.mono (by decide)) (by rfl) (pa_cons (pv 0) (pa_cons (pv 4) pa_nil)))) (pss_one (ps_if (PW.pt (pw_or (pt_cmpR op_eq (pe_ix (kix_tup K) (pv 6) pe_int (fun _ _ => rfl)) pe_str (nomark _)) (pw_or1 (pt_cmpR op_le (pe_can c__law_step_period (hr.mono (by decide)) (by rfl) (pa_cons (pv 6) pa_nil)) (pv 4) (nomark _))))) (pss_cons (ps_expr (pe_bm PySem.F.plainAttrs_list PySem.F.slot_list_append PySem.F.type_list_append mt_append (pv 3) (pa_cons (pv 6) pa_nil))) (pss_one (ps_set (i := 4) sc_law_pipeline.nd rfl (Or.inl rfl) (pe_op op_fdiv (pv 4) (pe_can c__law_step_period (hr.mono (by decide)) (by rfl) (pa_cons (pv 6) pa_nil)))))) pss_nil)))) (pss_one (ps_ret (pe_callTy (ktuple_of K) (by rfl) z_tuple (by decide +kernel) (pa_cons (pv 3) pa_nil)))))), ?_⟩
  (purse 16 => fail)
  refine fl_range (fun i σ' H' => Bs K b d H H' ∧ ∃ (xs : List V) (p : Pipe) (left : Int) (w1 w2 : Option V), H' pN = some (.lst xs) ∧ Paired (StepAt K H') xs p ∧ p.length ≤ i ∧ (∀ s ∈ p, s.ok) ∧ 1 ≤ left ∧ p.prod * left ≤ l ∧
    σ' = [some (.ref b), some (.int m), some (.int l), some (.ref pN), some (.int left), w1, w2]) ?_ ?_ ?_
  · exact ⟨by (purse 6 => fail), [], [], l, _, _, by (purse 3 => fail), .nil, Nat.le_refl _, by simp, hl.1, by rw [Pipe.prod_nil]; omega, rfl⟩
  · rintro i σ' H' hi ⟨hB, xs, p, left, w1, w2, hp, hx, hpl, hok, hl1, hpr, rfl⟩
    have hi6 : i < 6 := by omega
    have hb' := hB.bag
    have hpp := Pipe.prod_pos hok
    have hl2 : left ≤ l := le_of_mul_le_r hpp (by omega) hpr
    have hxl := Paired.len hx
    (purse 16 => fail)
    have hx2 := Paired.mapP hx fun _ _ z => StepAt.hb h2 z
    have hp2 : H2 pN = some (.lst xs) := by (purse 3 => fail)
    have t3 := t2
    obtain ⟨a2, rfl, q2⟩ := t2
    have pos2 := o2.pos
    obtain ⟨pe1, pe2⟩ := Step.per_pos o2
    have fin : ∀ (s2 : Step) (H3 : Hp), s2.ok → s2.per ≤ left → Bs K b d H H3 → H3 pN = some (.lst (xs ++ [V.ref a2])) → Paired (StepAt K H3) xs p → StepAt K H3 (.ref a2) s2 → ∃ (xs' : List V) (p' : Pipe) (left' : Int) (w1' w2' : Option V), H3 pN = some (.lst xs') ∧ Paired (StepAt K H3) xs' p' ∧ p'.length ≤ i + 1 ∧ (∀ s ∈ p', s.ok) ∧ 1 ≤ left' ∧ p'.prod * left' ≤ l ∧
        [some (V.ref b), some (.int m), some (.int l), some (.ref pN), some (.int (left / s2.per)), some (.int (0 + (i : Int))), some (.ref a2)] = [some (V.ref b), some (.int m), some (.int l), some (.ref pN), some (.int left'), w1', w2'] := by
      intro s2 H3 ho hle hB3 hp3 hx3 hs3
      obtain ⟨e1, e2⟩ := Step.per_pos ho
      refine ⟨_, p ++ [s2], left / s2.per, _, _, hp3, Paired.snoc hx3 hs3, by rw [List.length_append, List.length_singleton]; omega, ?_, one_le_div e1 hle, ?_, rfl⟩
      · intro s hs
        rcases List.mem_append.mp hs with h | h
        · exact hok s h
        · rw [List.mem_singleton.mp h]; exact ho
      · rw [Pipe.prod_snoc]; exact prod_step hpp e1 hpr
    cases s2 with
    | sc k2 m2 c2 =>
      have hm2 := l2 _ _ _ rfl
      (purse 16 => fail)
      exact ⟨by (purse 6 => fail), fin _ _ o2 hm2 (by (purse 6 => fail)) (by (purse 3 => fail)) (Paired.mapP hx2 fun _ _ z => by (purse 2 => fail)) (by (purse 2 => fail))⟩
    | ev m2 =>
      (purse 16 => fail)
      · exact ⟨by (purse 6 => fail), fin _ _ o2 hc (by (purse 6 => fail)) (by (purse 3 => fail)) (Paired.mapP hx2 fun _ _ z => by (purse 2 => fail)) (by (purse 2 => fail))⟩
      · exact ⟨by (purse 6 => fail), xs, p, left, _, _, by (purse 3 => fail), (Paired.mapP hx2 fun _ _ z => by (purse 2 => fail)), by omega, hok, hl1, hpr, rfl⟩
  · rintro σ' H' ⟨hB, xs, p, left, w1, w2, hp, hx, hpl, hok, hl1, hpr, rfl⟩
    have hpp := Pipe.prod_pos hok
    (purse 16 => fail)
    refine k _ p _ (by (purse 6 => fail)) ⟨_, xs, rfl, SqT.new, Paired.mapP hx fun _ _ z => by (purse 2 => fail)⟩ (by omega) hok ?_
    have := Int.mul_le_mul_of_nonneg_left hl1 (show 0 ≤ p.prod by omega)
    omega
end
end
section
local macro_rules | `(tactic| purse 99 => fail) => `(tactic| (first | ((with_reducible refine' u_law_step_period ?rdA ?rdB ?_); (case rdA => (purse 2 => fail)); (case rdB => assumption); intro H2 h2)))
section
variable {P : Program} {w : World} {K : PySem.W.Frag} {mg : Str → Option Value} {base : Heap}
theorem ok_law_product {f : Addr} {fd : FuncData} (F : Fun K "_law_product" "_law_product" s_law_product f fd) (c__law_step_period : Can P w K mg base 1 "_law_step_period" ["step"] (sp_law_step_period K)) :
    FnOk P w K mg base CX0 2 f fd ["pipeline"] (sp_law_product K) := by
  refine F.ok sc_law_product (fun vs H Q E h => sp_law_product_len h) (fun cdv A outer s H vs Q E hr h => ?_)
  obtain ⟨v, p, rfl, ⟨a, xs, rfl, hS, hx⟩, hp, k⟩ := h
  refine ⟨_, (pss_cons (ps_set (i := 1) sc_law_product.nd rfl (Or.inl rfl) pe_int) (pss_cons (ps_for PassesOwn.never rfl (kpi_tup K (pv 0)) (pg_name (i := 2) sc_law_product.nd rfl (Or.inl rfl)) (pss_one (ps_set (i := 1) sc_law_product.nd rfl (Or.inl rfl) (pe_op op_mul (pv 1) (pe_can c__law_step_period (hr.mono (by decide)) (by rfl) (pa_cons (pv 2) pa_nil)))))) (pss_one (ps_ret (pv 1))))), ?_⟩
  (purse 16 => fail)
  refine fl_P (p := p) hS hx (fun i σ' H' => Same H H' ∧ ∃ w, σ' = [some (.ref a), some (.int (Pipe.prod (p.take i))), w]) ⟨Same.refl _, _, rfl⟩ (fun _ _ _ h => .ofSame h.1) ?_ ?_
  · rintro i s v σ' H' hi hm hs ⟨hH, w, rfl⟩
    have ps := hp s hm
    obtain ⟨o1, o2⟩ := Step.per_pos' ps
    (purse 16 => fail)
    exact ⟨by (purse 1 => fail), _, by rw [prod_take hi]; rfl⟩
  · rintro σ' H' ⟨hH, w, rfl⟩
    (purse 16 => fail)
    refine qint ?_ (k _ hH)
    rw [List.take_length]
end
end
section
local macro_rules | `(tactic| purse 99 => fail) => `(tactic| (first | ((with_reducible refine' u_law_from ?rdA ?_); (case rdA => (purse 2 => fail)); intro H2 h2)))
section
variable {P : Program} {w : World} {K : PySem.W.Frag} {mg : Str → Option Value} {base : Heap}
theorem ok_law_is_step {f : Addr} {fd : FuncData} (F : Fun K "_law_is_step" "_law_is_step" s_law_is_step f fd) (c__law_from : Can P w K mg base 1 "_law_from" ["thing", "least", "top"] (sp_law_from K)) (z_len : mg "len" = none) (z_isinstance : mg "isinstance" = none) (z_str : mg "str" = none) (z_tuple : mg "tuple" = none) :
    FnOk P w K mg base CX0 2 f fd ["value"] (sp_law_is_step K) := by
  refine F.ok sc_law_is_step (fun vs H Q E h => sp_law_is_step_len h) (fun cdv A outer s H vs Q E hr h => ?_)
  obtain ⟨v, d, rfl, hd, sh, k⟩ := h
  refine ⟨_, (pss_cons (ps_if (PW.pt (pw_or (pt_not (pt_val (pe_callB (kisi K) (by rfl) z_isinstance (by decide +kernel) (pa_cons (pv 0) (pa_cons (pe_bltn (v := .ty "tuple") (by rfl) z_tuple (by decide +kernel) rfl) pa_nil))))) (pw_or (pt_cmpR (keqD K hr.units) (pv 0) (pe_tup pa_nil) (nomark _)) (pw_or1 (pt_not (pt_val (pe_callB (kisi K) (by rfl) z_isinstance (by decide +kernel) (pa_cons (pe_ix (kix_tup K) (pv 0) pe_int (fun _ _ => rfl)) (pa_cons (pe_bltn (v := .ty "str") (by rfl) z_str (by decide +kernel) rfl) pa_nil))))))))) (pss_one (ps_ret pe_bl)) pss_nil) (pss_cons (ps_if (pt_cmpR op_eq (pe_ix (kix_tup K) (pv 0) pe_int (fun _ _ => rfl)) pe_str (nomark _)) (pss_one (ps_ret (pe_and (pe_cmpR op_eq (pe_callB (klen K) (by rfl) z_len (by decide +kernel) (pa_cons (pv 0) pa_nil)) pe_int (nomark _)) (pe_one (pe_can c__law_from (hr.mono (by decide)) (by rfl) (pa_cons (pe_ix (kix_tup K) (pv 0) pe_int (fun _ _ => rfl)) (pa_cons pe_int (pa_cons pe_int pa_nil)))))))) pss_nil) (pss_cons (ps_if (PW.pt (pw_or (pt_cmpR op_ne (pe_ix (kix_tup K) (pv 0) pe_int (fun _ _ => rfl)) pe_str (nomark _)) (pw_or (pt_cmpR op_ne (pe_callB (klen K) (by rfl) z_len (by decide +kernel) (pa_cons (pv 0) pa_nil)) pe_int (nomark _)) (pw_or1 (pt_not (pt_val (pe_can c__law_from (hr.mono (by decide)) (by rfl) (pa_cons (pe_ix (kix_tup K) (pv 0) pe_int (fun _ _ => rfl)) (pa_cons (pe_un un_neg (pe_op op_pow pe_int pe_int)) (pa_cons (pe_op op_pow pe_int pe_int) pa_nil)))))))))) (pss_one (ps_ret pe_bl)) pss_nil) (pss_one (ps_ret (pe_and (pe_can c__law_from (hr.mono (by decide)) (by rfl) (pa_cons (pe_ix (kix_tup K) (pv 0) pe_int (fun _ _ => rfl)) (pa_cons pe_int (pa_cons pe_int pa_nil)))) (pe_one (pe_can c__law_from (hr.mono (by decide)) (by rfl) (pa_cons (pe_ix (kix_tup K) (pv 0) pe_int (fun _ _ => rfl)) (pa_cons pe_int (pa_cons pe_int pa_nil))))))))))), ?_⟩
  cases d with
  | int i => (purse 16 => fail); exact k _ (Same.refl _)
  | none => (purse 16 => fail); exact k _ (Same.refl _)
  | bool b => (purse 16 => fail); exact k _ (Same.refl _)
  | str b => (purse 16 => fail); exact k _ (Same.refl _)
  | list b => (purse 16 => fail); exact k _ (Same.refl _)
  | dict b => cases hd
  | tuple ds =>
    have hd' := hd
    cases hd with
    | tup hS ha =>
      cases ha with
      | nil => (purse 16 => fail); exact k _ (by (purse 1 => fail))
      | @cons v0 vr d0 dr h0 hr =>
        cases d0 with
        | int i => (purse 16 => fail); exact k _ (by (purse 1 => fail))
        | none => (purse 16 => fail); exact k _ (by (purse 1 => fail))
        | bool b => (purse 16 => fail); exact k _ (by (purse 1 => fail))
        | list b => (purse 16 => fail); exact k _ (by (purse 1 => fail))
        | tuple b => (purse 16 => fail); exact k _ (by (purse 1 => fail))
        | dict b => cases h0
        | str t =>
          have h0' := h0
          cases h0
          by_cases te : t = "even"
          · have e1 := decStr te
            cases hr with
            | nil => (purse 16 => fail); exact qbl (by simp [isStepD, te]) (k _ (by (purse 1 => fail)))
            | cons h1 hr =>
              cases hr with
              | nil => (purse 16 => fail); exact qbl (by simp [isStepD, te]) (k _ (by (purse 1 => fail)))
              | cons h2 hr => (purse 16 => fail); exact qbl (by simp [isStepD, te]) (k _ (by (purse 1 => fail)))
          · have e1 := decStrN te
            by_cases ts : t = "scale"
            · have e2 := decStr ts
              cases hr with
              | nil => (purse 16 => fail); exact qbl (by simp [isStepD, te, ts, se_ne]) (k _ (by (purse 1 => fail)))
              | cons h1 hr =>
                cases hr with
                | nil => (purse 16 => fail); exact qbl (by simp [isStepD, te, ts, se_ne]) (k _ (by (purse 1 => fail)))
                | cons h2 hr =>
                  cases hr with
                  | nil => (purse 16 => fail); exact qbl (by simp [isStepD, te, ts, se_ne]) (k _ (by (purse 1 => fail)))
                  | cons h3 hr =>
                    cases hr with
                    | nil =>
                      (purse 16 => fail)
                      all_goals (refine qbl ?_ (k _ (by (purse 1 => fail))); subst ts; simp_all [isStepD, se_ne])
                    | cons h4 hr => (purse 16 => fail); exact qbl (by simp [isStepD, te, ts, se_ne]) (k _ (by (purse 1 => fail)))
            · have e2 := decStrN ts
              (purse 16 => fail); exact qbl (by simp [isStepD, te, ts, se_ne]) (k _ (by (purse 1 => fail)))
end
end
section
local macro_rules | `(tactic| purse 99 => fail) => `(tactic| (first | ((with_reducible refine' u_law_product ?rdA ?rdB ?_); (case rdA => (purse 2 => fail)); (case rdB => (first | assumption | decide)); intro H2 h2) | ((with_reducible refine' u_law_is_step ?rdA ?rdB ?_); (case rdA => (purse 2 => fail)); (case rdB => assumption); intro H2 h2)))
section
variable {P : Program} {w : World} {K : PySem.W.Frag} {mg : Str → Option Value} {base : Heap}
theorem ok_law_is_pipeline {f : Addr} {fd : FuncData} (F : Fun K "_law_is_pipeline" "_law_is_pipeline" s_law_is_pipeline f fd) (c__law_product : Can P w K mg base 2 "_law_product" ["pipeline"] (sp_law_product K)) (c__law_is_step : Can P w K mg base 2 "_law_is_step" ["value"] (sp_law_is_step K)) (z_all : mg "all" = none) (z_len : mg "len" = none) (z_isinstance : mg "isinstance" = none) (z_tuple : mg "tuple" = none) :
    FnOk P w K mg base CX0 3 f fd ["value"] (sp_law_is_pipeline K) := by
  refine F.ok sc_law_is_pipeline (fun vs H Q E h => sp_law_is_pipeline_len h) (fun cdv A outer s H vs Q E hr h => ?_)
  obtain ⟨v, d, rfl, hd, sh, k⟩ := h
  refine ⟨_, (pss_cons (ps_if (PW.pt (pw_or (pt_not (pt_val (pe_callB (kisi K) (by rfl) z_isinstance (by decide +kernel) (pa_cons (pv 0) (pa_cons (pe_bltn (v := .ty "tuple") (by rfl) z_tuple (by decide +kernel) rfl) pa_nil))))) (pw_or1 (pt_cmpR op_gt (pe_callB (klen K) (by rfl) z_len (by decide +kernel) (pa_cons (pv 0) pa_nil)) pe_int (nomark _))))) (pss_one (ps_ret pe_bl)) pss_nil) (pss_cons (ps_if (pt_not (pt_val (pe_callB (kall K) (by rfl) z_all (by decide +kernel) (pa_cons (pe_lc (own := [("step", 1)]) (by rfl) sc_law_is_pipeline.nd (kpi_tup K (pv 0)) (blkOk_by (own := [("step", 1)]) (N := n_law_is_pipeline) (sc := defScope s_law_is_pipeline) (by decide +kernel)) (fun _ _ _ _ _ => (pg_name (i := 1) sc_law_is_pipeline.nd rfl (Or.inl rfl))) (fun _ _ _ _ _ => pts_nil) (fun _ _ _ _ _ => (pe_can c__law_is_step (hr.mono (by decide)) (by rfl) (pa_cons (pv 1) pa_nil)))) pa_nil)))) (pss_one (ps_ret pe_bl)) pss_nil) (pss_one (ps_ret (pe_cmpR op_le (pe_can c__law_product (hr.mono (by decide)) (by rfl) (pa_cons (pv 0) pa_nil)) pe_int (nomark _)))))), ?_⟩
  cases d with
  | int i => (purse 16 => fail); exact k _ (Same.refl _)
  | none => (purse 16 => fail); exact k _ (Same.refl _)
  | bool b => (purse 16 => fail); exact k _ (Same.refl _)
  | str b => (purse 16 => fail); exact k _ (Same.refl _)
  | list b => (purse 16 => fail); exact k _ (Same.refl _)
  | dict b => cases hd
  | tuple ds =>
    have hd' := hd
    cases hd with
    | tup hS ha =>
      rw [shaped_tup, Bool.and_eq_true, decide_eq_true_eq] at sh
      obtain ⟨sh1, sh2⟩ := sh
      have hl := DpAll.len ha
      (purse 16 => fail)
      · exact qbl (by simp [isPipeD]; omega) (k _ (by (purse 1 => fail)))
      · refine ll_tup (ys := ds.map isStepD) V.bl hS (by simp [hl]) (by rw [List.length_map]; omega) (fun _ => rfl) ?_ ?_
        · intro i x y H' Q' hx hy hs kq
          obtain ⟨d, hd, hdx⟩ := DpAll.get ha hx
          rw [List.getElem?_map, hd] at hy
          cases hy
          (purse 16 => fail)
          exact u_law_is_step (Dp.same hs hdx) (shaped_mem sh1 sh2 d (List.mem_of_getElem? hd)) fun H4 h4 => kq _ h4
        · intro D H1 hs hD hn
          (purse 16 => fail)
          refine r_all (SqL.of hD) ?_
          (purse 16 => fail)
          · refine qbl ?_ (k _ (by (purse 1 => fail)))
            have e : ds.all isStepD = false := by
              rw [List.all_map] at hc
              simpa using hc
            simp [isPipeD, e]
          · have e : ds.all isStepD = true := by
              rw [List.all_map] at hc
              simpa using hc
            obtain ⟨p, rfl, hp⟩ := steps_of e
            have hP : PipeAt K H1 (.ref _) p := ⟨_, _, rfl, SqT.hs hs hS, ofDpAll (DpAll.same hs ha)⟩
            refine u_law_product hP (poss (fun s hs => hp s hs)) fun H3 h3 => ?_
            (purse 16 => fail)
            refine qbl ?_ (k _ (by (purse 1 => fail)))
            simp only [isPipeD, Pipe.prod, e, Bool.and_true, List.map_map]
            have e2 : (perD ∘ Step.data) = Step.per := funext perD_data
            rw [e2]
            rw [List.length_map] at hl
            have e3 : decide ((List.map Step.data p).length ≤ 6) = true := decide_eq_true (by rw [List.length_map]; omega)
            rw [e3]
            simp
            try rfl
end
end
section
local macro_rules | `(tactic| purse 99 => fail) => `(tactic| (first | ((with_reducible refine' u_is_pipelineP ?rdA ?rdB ?_); (case rdA => (purse 2 => fail)); (case rdB => (first | assumption | decide)); intro H2 h2) | ((with_reducible refine' u_is_pipelineQ ?rdA ?_); (case rdA => (purse 2 => fail)); intro H2 h2) | ((with_reducible refine' u_law_bags (K := K) ?rdA ?rdB ?_); (case rdA => (purse 2 => fail)); (case rdB => omega); intro q2 bs2 H2 h2 n2 bg2) | ((with_reducible refine' u_is_step ?rdA ?rdB ?_); (case rdA => (purse 2 => fail)); (case rdB => assumption); intro H2 h2) | ((with_reducible refine' u_law_is_step ?rdA ?rdB ?_); (case rdA => (purse 2 => fail)); (case rdB => assumption); intro H2 h2) | ((with_reducible refine' u_law_is_pipeline ?rdA ?rdB ?_); (case rdA => (purse 2 => fail)); (case rdB => assumption); intro H2 h2) | ((with_reducible refine' u_law_pipeline (K := K) ?rdA ?rdB ?rdC ?_); (case rdA => (purse 2 => fail)); (case rdB => omega); (case rdC => omega); intro pa p2 H2 h2 t2 l2 o2 r2)))
section
variable {P : Program} {w : World} {K : PySem.W.Frag} {mg : Str → Option Value} {base : Heap}
theorem ok_law {f : Addr} {fd : FuncData} (F : Fun K "law" "law" s_law f fd) (c_is_pipeline : Can P w K mg base 3 "is_pipeline" ["value"] (sp_is_pipeline K)) (c__law_bags : Can P w K mg base 3 "_law_bags" ["script", "limit"] (sp_law_bags K)) (c__law_odd : Can P w K mg base 1 "_law_odd" ["picks"] (sp_law_odd K)) (c_is_step : Can P w K mg base 2 "is_step" ["value"] (sp_is_step K)) (c__law_is_step : Can P w K mg base 2 "_law_is_step" ["value"] (sp_law_is_step K)) (c__law_is_pipeline : Can P w K mg base 3 "_law_is_pipeline" ["value"] (sp_law_is_pipeline K)) (c__law_spoilt : Can P w K mg base 7 "_law_spoilt" ["thing", "picks"] (sp_law_spoilt K)) (c__law_pipeline : Can P w K mg base 4 "_law_pipeline" ["bag", "most", "limit"] (sp_law_pipeline K)) (z_repr : mg "repr" = none) (z_list : mg "list" = none) :
    FnOk P w K mg base CX0 8 f fd ["script"] (sp_law K) := by
  refine F.ok sc_law (fun vs H Q E h => sp_law_len h) (fun cdv A outer s H vs Q E hr h => ?_)
  obtain ⟨a, ns, rfl, hS, k⟩ := h
  refine ⟨_, (pss_cons (ps_for PassesOwn.never rfl (kpi_list K (pe_can c__law_bags (hr.mono (by decide)) (by rfl) (pa_cons (pv 0) (pa_cons pe_int pa_nil)))) (pg_name (i := 1) sc_law.nd rfl (Or.inl rfl)) (pss_cons (ps_set (i := 2) sc_law.nd rfl (Or.inl rfl) (pe_can c__law_pipeline (hr.mono (by decide)) (by rfl) (pa_cons (pv 1) (pa_cons pe_int (pa_cons pe_int pa_nil))))) (pss_cons (ps_set (i := 3) sc_law.nd rfl (Or.inl rfl) (pe_can c__law_spoilt (hr.mono (by decide)) (by rfl) (pa_cons (pv 2) (pa_cons (pe_slice (ksl_list K) (pe_ix (kix_list K) (pv 1) pe_int (fun _ _ => rfl)) (po_some (pe_op op_mod (pe_ix (kix_list K) (pv 1) pe_int (fun _ _ => rfl)) pe_int)) po_none) pa_nil)))) (pss_cons (ps_set (i := 4) sc_law.nd rfl (Or.inl rfl) (pe_can c__law_spoilt (hr.mono (by decide)) (by rfl) (pa_cons (pv 3) (pa_cons (pe_slice (ksl_list K) (pe_ix (kix_list K) (pv 1) pe_int (fun _ _ => rfl)) (po_some (pe_op op_add (pe_op op_mod (pe_ix (kix_list K) (pv 1) pe_int (fun _ _ => rfl)) pe_int) pe_int)) po_none) pa_nil)))) (pss_cons (ps_halt (ps_set (i := 5) sc_law.nd rfl (Or.inl rfl) (pe_lst (pa_cons (pv 2) (pa_cons (pv 3) (pa_cons (pv 4) (pa_cons (pe_callTy (klist_of K) (by rfl) z_list (by decide +kernel) (pa_cons (pv 2) pa_nil)) (pa_cons (kpe_revT K (pv 2)) pa_nil)))))))) (pss_cons (ps_halt (ps_set (i := 6) sc_law.nd rfl (Or.inl rfl) (pe_lst (pa_cons (pe_tup (pa_cons pe_str (pa_cons pe_int pa_nil))) (pa_cons (pe_tup (pa_cons pe_str (pa_cons pe_int pa_nil))) (pa_cons (pe_tup (pa_cons pe_str (pa_cons pe_int pa_nil))) pa_nil)))))) (pss_cons (ps_halt (ps_set (i := 6) sc_law.nd rfl (Or.inl rfl) (pe_op op_cat (pv 6) (pe_lst (pa_cons (pe_tup (pa_cons pe_str (pa_cons pe_bl pa_nil))) (pa_cons (pe_tup (pa_cons pe_str (pa_cons pe_int (pa_cons pe_int pa_nil)))) (pa_cons (pe_tup (pa_cons pe_str (pa_cons pe_int (pa_cons pe_int (pa_cons (pe_op op_pow pe_int pe_int) pa_nil))))) pa_nil))))))) (pss_cons (ps_halt (ps_set (i := 6) sc_law.nd rfl (Or.inl rfl) (pe_op op_cat (pv 6) (pe_lst (pa_cons (pe_tup (pa_cons pe_str (pa_cons pe_int (pa_cons pe_int (pa_cons pe_int pa_nil))))) (pa_cons (pe_tup (pa_cons pe_str (pa_cons pe_int (pa_cons pe_int (pa_cons pe_int pa_nil))))) pa_nil)))))) (pss_cons (ps_halt (ps_set (i := 6) sc_law.nd rfl (Or.inl rfl) (pe_op op_cat (pv 6) (pe_lst (pa_cons (pe_tup (pa_cons pe_str (pa_cons pe_int (pa_cons pe_int (pa_cons pe_int pa_nil))))) (pa_cons (pe_tup (pa_cons pe_str (pa_cons pe_int (pa_cons pe_int (pa_cons (pe_op op_add (pe_op op_pow pe_int pe_int) pe_int) pa_nil))))) pa_nil)))))) (pss_cons (ps_halt (ps_set (i := 6) sc_law.nd rfl (Or.inl rfl) (pe_op op_cat (pv 6) (pe_lst (pa_cons (pe_tup (pa_cons pe_str (pa_cons pe_int (pa_cons pe_int (pa_cons (pe_un un_neg (pe_op op_pow pe_int pe_int)) pa_nil))))) (pa_cons (pe_tup (pa_cons pe_str (pa_cons pe_int (pa_cons pe_int pa_nil)))) (pa_cons (pe_tup (pa_cons pe_str (pa_cons pe_int pa_nil))) pa_nil))))))) (pss_cons (ps_halt (ps_set (i := 6) sc_law.nd rfl (Or.inl rfl) (pe_op op_cat (pv 6) (pe_lst (pa_cons (pe_lst (pa_cons pe_str (pa_cons pe_int pa_nil))) (pa_cons (pe_tup (pa_cons pe_str (pa_cons pe_int (pa_cons pe_bl (pa_cons pe_int pa_nil))))) pa_nil)))))) (pss_cons (ps_halt (ps_for PassesOwn.never rfl (kpi_list K (pv 6)) (pg_name (i := 7) sc_law.nd rfl (Or.inl rfl)) (pss_one (ps_set (i := 5) sc_law.nd rfl (Or.inl rfl) (pe_op op_cat (pv 5) (pe_lst (pa_cons (pv 7) (pa_cons (pe_tup (pa_cons (pv 7) pa_nil)) (pa_cons (pe_op (kcatA K) (pe_slice (ksl_tupA K) (pv 2) po_none (po_some pe_int)) (pe_tup (pa_cons (pv 7) pa_nil))) pa_nil))))))))) (pss_cons (ps_halt (ps_set (i := 5) sc_law.nd rfl (Or.inl rfl) (pe_op op_cat (pv 5) (pe_lst (pa_cons (pe_op op_repT (pe_tup (pa_cons (pe_tup (pa_cons pe_str (pa_cons pe_int (pa_cons pe_int (pa_cons pe_int pa_nil))))) pa_nil)) pe_int) (pa_cons (pe_op op_repT (pe_tup (pa_cons (pe_tup (pa_cons pe_str (pa_cons pe_int (pa_cons pe_int (pa_cons pe_int pa_nil))))) pa_nil)) pe_int) pa_nil)))))) (pss_cons (ps_halt (ps_set (i := 5) sc_law.nd rfl (Or.inl rfl) (pe_op op_cat (pv 5) (pe_lst (pa_cons (pe_tup (pa_cons (pe_tup (pa_cons pe_str (pa_cons pe_int pa_nil))) (pa_cons (pe_tup (pa_cons pe_str (pa_cons pe_int pa_nil))) pa_nil))) (pa_cons (pe_op op_repT (pe_tup (pa_cons (pe_tup (pa_cons pe_str (pa_cons pe_int pa_nil))) pa_nil)) pe_int) pa_nil)))))) (pss_one (ps_for PassesOwn.never rfl (kpi_list K (pe_op op_cat (pv 5) (pe_lst (pa_cons (pe_can c__law_odd (hr.mono (by decide)) (by rfl) (pa_cons (pe_slice (ksl_list K) (pe_ix (kix_list K) (pv 1) pe_int (fun _ _ => rfl)) (po_some (pe_op op_mod (pe_ix (kix_list K) (pv 1) pe_int (fun _ _ => rfl)) pe_int)) po_none) pa_nil)) (pa_cons (pe_can c__law_odd (hr.mono (by decide)) (by rfl) (pa_cons (pe_slice (ksl_list K) (pe_ix (kix_list K) (pv 1) pe_int (fun _ _ => rfl)) (po_some (pe_op op_add (pe_op op_mod (pe_ix (kix_list K) (pv 1) pe_int (fun _ _ => rfl)) pe_int) pe_int)) po_none) pa_nil)) pa_nil))))) (pg_name (i := 8) sc_law.nd rfl (Or.inl rfl)) (pss_cons (ps_if (pt_cmpR op_ne (pe_callB krepr (by rfl) z_repr (by decide +kernel) (pa_cons (pe_can c_is_pipeline (hr.mono (by decide)) (by rfl) (pa_cons (pv 8) pa_nil)) pa_nil)) (pe_callB krepr (by rfl) z_repr (by decide +kernel) (pa_cons (pe_can c__law_is_pipeline (hr.mono (by decide)) (by rfl) (pa_cons (pv 8) pa_nil)) pa_nil)) (nomark _)) (pss_one (ps_ret pe_bl)) pss_nil) (pss_one (ps_if (pt_cmpR op_ne (pe_callB krepr (by rfl) z_repr (by decide +kernel) (pa_cons (pe_can c_is_step (hr.mono (by decide)) (by rfl) (pa_cons (pv 8) pa_nil)) pa_nil)) (pe_callB krepr (by rfl) z_repr (by decide +kernel) (pa_cons (pe_can c__law_is_step (hr.mono (by decide)) (by rfl) (pa_cons (pv 8) pa_nil)) pa_nil)) (nomark _)) (pss_one (ps_ret pe_bl)) pss_nil))))))))))))))))))) (pss_one (ps_ret (pe_cmpR op_isBl (pe_can c_is_pipeline (hr.mono (by decide)) (by rfl) (pa_cons (pe_tup pa_nil) pa_nil)) pe_bl (nomark _))))), ?_⟩
  (purse 16 => fail)
  refine i_l (SqL.of bg2.lst) ?_
  refine fl_bags bg2 (fun σ' => ∃ w1 w2 w3 w4 w5 w6 w7 w8, σ' = [some (.ref a), w1, w2, w3, w4, w5, w6, w7, w8]) ⟨_, _, _, _, _, _, _, _, rfl⟩ ?_ ?_
  · rintro b d σ' H3 ⟨w1, w2, w3, w4, w5, w6, w7, w8, rfl⟩ hb
    (purse 16 => fail)
    obtain ⟨ne, n, ds, hb1, hd1, hdl, hd0, hn0⟩ := h2.bag
    (purse 16 => fail)
    refine u_law_spoilt (ns := ds.drop (n % 200).toNat) (n := 6) (j := 2) (SqL.of (by rw [upd_same, cut_from' _ (by omega), List.map_drop])) (by rw [List.length_drop]; omega) (by decide) (by decide) (DV.pipe (by (purse 2 => fail)) (by omega)) fun v1 H4 h4 d4 => ?_
    (purse 16 => fail)
    refine u_law_spoilt (ns := ds.drop (n % 170 + 10).toNat) (n := 7) (j := 4) (SqL.of (by rw [upd_same, cut_from' _ (by omega), List.map_drop])) (by rw [List.length_drop]; omega) (by decide) (by decide) (DV.same (by (purse 1 => fail)) d4) fun v2 H5 h5 d5 => ?_
    (purse 16 => fail)
    obtain ⟨_, xp, ep, hxp, rxp⟩ := t2
    cases ep
    have hxl : xp.length ≤ 6 := by have := Paired.len rxp; omega
    refine s_haltC (GrI K H5 8 6 5 fun p => [some (.ref a), some (.ref b), some (.ref pa), some v1, some v2, some (.ref p), w6, w7, w8]) ?_ ?_
    · intro N hN'
      (purse 16 => fail)
      refine ⟨pa, xp, rfl, by (purse 2 => fail), fun c hc => ?_⟩
      (purse 16 => fail)
      exact hN' _ _ ⟨_, _, by (purse 1 => fail), upd_same, rfl, memC (DV.mono (by decide) (by decide) (DV.tup (k := 1) (SqT.hs (by (purse 1 => fail)) hxp) hxl (dvm (by (purse 1 => fail)) (pipe_dvs rxp)))) (memC (DV.mono (by decide) (by decide) (DV.same (by (purse 1 => fail)) d4)) (memC (DV.mono (by decide) (by decide) (DV.same (by (purse 1 => fail)) d5)) (memC (DV.mono (n := 6) (k := 2) (by decide) (by decide) (DV.lst (SqL.of (by (purse 3 => fail))) hxl (dvm (by (purse 1 => fail)) (pipe_dvs rxp)))) (mem1 (DV.mono (n := 6) (k := 2) (by decide) (by decide) (DV.t (by (purse 3 => fail)) (by rw [List.length_reverse]; exact hxl) fun x hx => dvm (by (purse 1 => fail)) (pipe_dvs rxp) x (List.mem_reverse.mp hx))))))), rfl⟩
    rintro σ' G1 ⟨pt, ts, gs0, gpt, glt, gmt, rfl⟩
    have hG1 : Same H2 G1 := by (purse 1 => fail)
    have hxp1 : SqT K G1 pa xp := SqT.hs hG1 hxp
    have dx1 := dvm hG1 (pipe_dvs rxp)
    have hb4 : Bs K b d H3 G1 := by (purse 6 => fail)
    have hb5 : G1 b = some (.lst [.ref d, .int n]) := hG1 _ _ hb1
    have hd5 : G1 d = some (.lst (ds.map V.int)) := hG1 _ _ hd1
    clear d4 d5 hxp gs0 h5 h4 rxp hb1 hd1
    (purse 16 => fail)
    refine s_haltC (GrI K G1 4 2 3 (fun p => [some (.ref a), some (.ref b), some (.ref pa), some v1, some v2, some (.ref pt), some (.ref p), w7, w8])) ?_ ?_
    · intro N hN'
      (purse 16 => fail)
      exact hN' _ _ ⟨_, _, by (purse 1 => fail), upd_same, rfl, memC (DV.tS (by (purse 3 => fail)) (by decide) (by decide +kernel)) (memC (DV.tS (by (purse 3 => fail)) (by decide) (by decide +kernel)) (mem1 (DV.tS (by (purse 3 => fail)) (by decide) (by decide +kernel)))), rfl⟩
    rintro σ' G2 ⟨ps1, xs1, gs1, gp1, gl1, gm1, rfl⟩
    (purse 16 => fail)
    refine s_haltC (GrI K G1 4 2 6 (fun p => [some (.ref a), some (.ref b), some (.ref pa), some v1, some v2, some (.ref pt), some (.ref p), w7, w8])) ?_ ?_
    · intro N hN'
      (purse 16 => fail)
      exact hN' _ _ ⟨_, _, by (purse 1 => fail), upd_same, by rw [List.length_append, gl1]; rfl, memA (dvm (by (purse 1 => fail)) gm1) (memC (DV.tS (by (purse 3 => fail)) (by decide) (by decide +kernel)) (memC (DV.tS (by (purse 3 => fail)) (by decide) (by decide +kernel)) (mem1 (DV.tS (by (purse 3 => fail)) (by decide) (by decide +kernel))))), rfl⟩
    rintro σ' G3 ⟨ps2, xs2, gs2, gp2, gl2, gm2, rfl⟩
    clear gm1 gl1 gp1
    (purse 16 => fail)
    refine s_haltC (GrI K G1 4 2 8 (fun p => [some (.ref a), some (.ref b), some (.ref pa), some v1, some v2, some (.ref pt), some (.ref p), w7, w8])) ?_ ?_
    · intro N hN'
      (purse 16 => fail)
      exact hN' _ _ ⟨_, _, by (purse 1 => fail), upd_same, by rw [List.length_append, gl2]; rfl, memA (dvm (by (purse 1 => fail)) gm2) (memC (DV.tS (by (purse 3 => fail)) (by decide) (by decide +kernel)) (mem1 (DV.tS (by (purse 3 => fail)) (by decide) (by decide +kernel)))), rfl⟩
    rintro σ' G4 ⟨ps3, xs3, gs3, gp3, gl3, gm3, rfl⟩
    clear gm2 gl2 gp2
    (purse 16 => fail)
    refine s_haltC (GrI K G1 4 2 10 (fun p => [some (.ref a), some (.ref b), some (.ref pa), some v1, some v2, some (.ref pt), some (.ref p), w7, w8])) ?_ ?_
    · intro N hN'
      (purse 16 => fail)
      exact hN' _ _ ⟨_, _, by (purse 1 => fail), upd_same, by rw [List.length_append, gl3]; rfl, memA (dvm (by (purse 1 => fail)) gm3) (memC (DV.tS (by (purse 3 => fail)) (by decide) (by decide +kernel)) (mem1 (DV.tS (by (purse 3 => fail)) (by decide) (by decide +kernel)))), rfl⟩
    rintro σ' G5 ⟨ps4, xs4, gs4, gp4, gl4, gm4, rfl⟩
    clear gm3 gl3 gp3
    (purse 16 => fail)
    refine s_haltC (GrI K G1 4 2 13 (fun p => [some (.ref a), some (.ref b), some (.ref pa), some v1, some v2, some (.ref pt), some (.ref p), w7, w8])) ?_ ?_
    · intro N hN'
      (purse 16 => fail)
      exact hN' _ _ ⟨_, _, by (purse 1 => fail), upd_same, by rw [List.length_append, gl4]; rfl, memA (dvm (by (purse 1 => fail)) gm4) (memC (DV.tS (by (purse 3 => fail)) (by decide) (by decide +kernel)) (memC (DV.tS (by (purse 3 => fail)) (by decide) (by decide +kernel)) (mem1 (DV.tS (by (purse 3 => fail)) (by decide) (by decide +kernel))))), rfl⟩
    rintro σ' G6 ⟨ps5, xs5, gs5, gp5, gl5, gm5, rfl⟩
    clear gm4 gl4 gp4
    (purse 16 => fail)
    refine s_haltC (GrI K G1 4 2 15 (fun p => [some (.ref a), some (.ref b), some (.ref pa), some v1, some v2, some (.ref pt), some (.ref p), w7, w8])) ?_ ?_
    · intro N hN'
      (purse 16 => fail)
      exact hN' _ _ ⟨_, _, by (purse 1 => fail), upd_same, by rw [List.length_append, gl5]; rfl, memA (dvm (by (purse 1 => fail)) gm5) (memC (DV.lS (by (purse 3 => fail)) (by decide) (by decide +kernel)) (mem1 (DV.tS (by (purse 3 => fail)) (by decide) (by decide +kernel)))), rfl⟩
    rintro σ' G7 ⟨ps6, xs6, gs6, gp6, gl6, gm6, rfl⟩
    clear gm5 gl5 gp5
    (purse 16 => fail)
    have gpt7 : G7 pt = some (.lst ts) := gs6 _ _ gpt
    have gmt7 := dvm gs6 gmt
    have hxp7 := SqT.hs gs6 hxp1
    have dx7 := dvm gs6 dx1
    have hb7 : Bs K b d H3 G7 := by (purse 6 => fail)
    have hb8 : G7 b = some (.lst [.ref d, .int n]) := gs6 _ _ hb5
    have hd8 : G7 d = some (.lst (ds.map V.int)) := gs6 _ _ hd5
    clear gpt gmt hxp1 dx1 hb4 hb5 hd5 gs1 gs2 gs3 gs4 gs5 gs6 hG1
    refine s_haltC (fun σ' H' => ∃ z7 z8 p xs, Same G7 H' ∧ H' p = some (.lst xs) ∧ xs.length = 50 ∧ (∀ x ∈ xs, DV K H' 8 6 x) ∧ σ' = [some (.ref a), some (.ref b), some (.ref pa), some v1, some v2, some (.ref p), some (.ref ps6), z7, z8]) ?_ ?_
    · intro N hN'
      (purse 16 => fail)
      refine fl_seq (SqL.of gp6) gp6 (fun i => fun σ' H' => ∃ z7 z8 p xs, Same G7 H' ∧ H' p = some (.lst xs) ∧ xs.length = 5 + 3 * i ∧ (∀ x ∈ xs, DV K H' 8 6 x) ∧ σ' = [some (.ref a), some (.ref b), some (.ref pa), some v1, some v2, some (.ref p), some (.ref ps6), z7, z8]) ⟨w7, w8, pt, ts, Same.refl _, gpt7, glt, gmt7, rfl⟩ ?_ ?_ ?_
      · rintro i σ' H' ⟨z7, z8, p, xs, h1, _⟩
        exact h1
      · rintro i x σ' H' hil hx ⟨z7, z8, p, xs, hs1, hp1, hl1, hm1, rfl⟩
        have dx := gm6 x hx
        (purse 16 => fail)
        refine r_slT (SqT.hs (by (purse 1 => fail)) hxp7) fun p5 H8 h8 sp5 => ?_
        (purse 16 => fail)
        have l5 : (cutV xp none (some 5)).length ≤ 5 := by rw [cut_to' _ (by decide), List.length_take]; exact Nat.min_le_left _ _
        refine r_catT (SqT.hu (by assumption) sp5) SqT.new (sz_le (by simp only [List.length_cons, List.length_nil]; omega)) fun p6 H9 h9 sp6 => ?_
        (purse 16 => fail)
        exact ⟨_, _, _, _, by (purse 1 => fail), upd_same, by simp only [List.length_append, List.length_cons, List.length_nil]; omega, memA (dvm (by (purse 1 => fail)) hm1) (memC (DV.mono (by decide) (by decide) (DV.same (by (purse 1 => fail)) dx)) (memC (DV.mono (n := 8) (k := 3) (by decide) (by decide) (DV.t (by (purse 3 => fail)) (by simp) (mem1 (DV.mono (by decide) (by decide) (DV.same (by (purse 1 => fail)) dx))))) (mem1 (DV.mono (n := 8) (k := 3) (by decide) (by decide) (DV.tup (SqT.hs (by (purse 1 => fail)) sp6) (by simp only [List.length_append, List.length_cons, List.length_nil]; omega) (memA (memV (dvn (by (purse 1 => fail)) dx7 (by decide) (by decide))) (mem1 (DV.mono (by decide) (by decide) (DV.same (by (purse 1 => fail)) dx))))))))), rfl⟩
      · rintro σ' H' ⟨z7, z8, p, xs, hs1, hp1, hl1, hm1, rfl⟩
        exact hN' _ _ ⟨_, _, _, _, hs1, hp1, by rw [hl1, gl6], hm1, rfl⟩
    rintro σ' H8 ⟨z7, z8, p8, xs8, g8, gp8, gl8, gm8, rfl⟩
    clear gp6 gm6 gl6
    (purse 16 => fail)
    refine s_haltC (fun σ' H' => ∃ z7 z8 p xs, Same G7 H' ∧ H' p = some (.lst xs) ∧ xs.length = 52 ∧ (∀ x ∈ xs, DV K H' 8 6 x) ∧ σ' = [some (.ref a), some (.ref b), some (.ref pa), some v1, some v2, some (.ref p), some (.ref ps6), z7, z8]) ?_ ?_
    · intro N hN'
      (purse 16 => fail)
      refine r_repT (K := K) (by (purse 2 => fail)) (by simp) (by decide) (by simp) fun pr1 hr1 => ?_
      (purse 16 => fail)
      refine r_repT (K := K) (by (purse 2 => fail)) (by simp) (by decide) (by simp) fun pr2 hr2 => ?_
      (purse 16 => fail)
      exact hN' _ _ ⟨_, _, _, _, by (purse 1 => fail), upd_same, by simp only [List.length_append, List.length_cons, List.length_nil]; omega, memA (dvm (by (purse 1 => fail)) gm8) (memC (DV.mono (n := 8) (k := 3) (by decide) (by decide) (DV.t (by (purse 3 => fail)) (by simp) (memRep (mem1 (DV.tS (by (purse 3 => fail)) (by decide) (by decide +kernel)))))) (mem1 (DV.mono (n := 8) (k := 3) (by decide) (by decide) (DV.t (by (purse 3 => fail)) (by simp) (memRep (mem1 (DV.tS (by (purse 3 => fail)) (by decide) (by decide +kernel)))))))), rfl⟩
    rintro σ' H9 ⟨z7, z8, p9, xs9, g9, gp9, gl9, gm9, rfl⟩
    clear gp8 gm8 gl8 g8
    (purse 16 => fail)
    refine s_haltC (fun σ' H' => ∃ z7 z8 p xs, Same G7 H' ∧ H' p = some (.lst xs) ∧ xs.length = 54 ∧ (∀ x ∈ xs, DV K H' 8 6 x) ∧ σ' = [some (.ref a), some (.ref b), some (.ref pa), some v1, some v2, some (.ref p), some (.ref ps6), z7, z8]) ?_ ?_
    · intro N hN'
      (purse 16 => fail)
      refine r_repT (K := K) (by (purse 2 => fail)) (by simp) (by decide) (by simp) fun pr1 hr1 => ?_
      (purse 16 => fail)
      exact hN' _ _ ⟨_, _, _, _, by (purse 1 => fail), upd_same, by simp only [List.length_append, List.length_cons, List.length_nil]; omega, memA (dvm (by (purse 1 => fail)) gm9) (memC (DV.mono (n := 8) (k := 3) (by decide) (by decide) (DV.t (by (purse 3 => fail)) (by simp) (memC (DV.tS (by (purse 3 => fail)) (by decide) (by decide +kernel)) (mem1 (DV.tS (by (purse 3 => fail)) (by decide) (by decide +kernel)))))) (mem1 (DV.mono (n := 8) (k := 3) (by decide) (by decide) (DV.t (by (purse 3 => fail)) (by simp) (memRep (mem1 (DV.tS (by (purse 3 => fail)) (by decide) (by decide +kernel)))))))), rfl⟩
    rintro σ' H10 ⟨z7, z8, p10, xs10, g10, gp10, gl10, gm10, rfl⟩
    clear gp9 gm9 gl9 g9
    have hbA : Bs K b d H3 H10 := by (purse 6 => fail)
    have hb10 : H10 b = some (.lst [.ref d, .int n]) := g10 _ _ hb8
    have hd10 : H10 d = some (.lst (ds.map V.int)) := g10 _ _ hd8
    clear gpt7 gmt7 hxp7 dx7 hb7 hb8 hd8
    (purse 16 => fail)
    refine u_law_odd (ns := ds.drop (n % 300).toNat) (SqL.of (by rw [upd_same, cut_from' _ (by omega), List.map_drop])) (by rw [List.length_drop]; omega) fun y1 H11 h11 d11 => ?_
    (purse 16 => fail)
    refine u_law_odd (ns := ds.drop (n % 250 + 40).toNat) (SqL.of (by rw [upd_same, cut_from' _ (by omega), List.map_drop])) (by rw [List.length_drop]; omega) fun y2 H12 h12 d12 => ?_
    have e11 := DV.same cut_sub d11
    have e12 := DV.same cut_sub d12
    clear d11 d12
    (purse 16 => fail)
    have hmA := memA (dvm (H1 := H10) (H2 := H12) (by (purse 1 => fail)) gm10) (memC (DV.mono (n' := 8) (k' := 6) (by decide) (by decide) (DV.same (G' := H12) (by (purse 1 => fail)) e11)) (mem1 (DV.mono (by decide) (by decide) e12)))
    refine fl_seqS upd_same (fun σ' => ∃ w8, σ' = [some (.ref a), some (.ref b), some (.ref pa), some v1, some v2, some (.ref p10), some (.ref ps6), z7, w8]) ⟨z8, rfl⟩ ?_ ?_
    · rintro x σ' H13 hx h13 ⟨w8, rfl⟩
      obtain ⟨dd, hdd, okd⟩ := dvm (H2 := H13) (by (purse 1 => fail)) hmA x hx
      have shd := okD_shaped okd (by decide)
      (purse 16 => fail)
      refine u_is_pipeline hdd shd fun H14 h14 => ?_
      (purse 16 => fail)
      all_goals first
        | exact absurd rfl hc
        | exact ⟨by (purse 1 => fail), _, rfl⟩
    · rintro σ' H13 h13 ⟨w8, rfl⟩
      exact ⟨by (purse 6 => fail), _, _, _, _, _, _, _, _, rfl⟩
  · rintro σ' H3 ⟨w1, w2, w3, w4, w5, w6, w7, w8, rfl⟩
    (purse 16 => fail)
    exact qbl (by simp) (k _)
end
end
section
variable {P : Program} {w : World} {K : PySem.W.Frag} {mg : Str → Option Value} {base : Heap}
/-! ### what the top has written -/
structure DefIn (K : PySem.W.Frag) (x : Str) (st : Stmt) : Prop where
  ex : ∃ (f : Addr) (oc : Value) (od an : Option Addr) (sl : Array (Option Value)) (kV dc pm cd ct : Value), PySem.W.nsIn K mainGlobals x = some (some (.ref f)) ∧
    K.lookup f = some ⟨oc, od, .func (PySem.W.fnOf x x (defArgs st) (defBody st) (defScope st) .none kV dc pm an cd ct), sl⟩ ∧ PySem.W.codeIn K cd x = true ∧ PySem.W.keepIn K (.ref f) = true
theorem DefIn.mk' {x : Str} {st : Stmt} {f : Addr} {oc : Value} {od an : Option Addr} {sl : Array (Option Value)} {kV dc pm cd ct : Value} (a : PySem.W.nsIn K mainGlobals x = some (some (.ref f)))
    (l : K.lookup f = some ⟨oc, od, .func (PySem.W.fnOf x x (defArgs st) (defBody st) (defScope st) .none kV dc pm an cd ct), sl⟩) (c : PySem.W.codeIn K cd x = true) (k : PySem.W.keepIn K (.ref f) = true) : DefIn K x st :=
  ⟨f, oc, od, an, sl, kV, dc, pm, cd, ct, a, l, c, k⟩
theorem DefIn.at' {x : Str} {st : Stmt} {h : Heap} (D : DefIn K x st) (X : K.In h) (G : h.Ns mainGlobals mg) : ∃ f fd, Fun K x x st f fd ∧ mg x = some (.ref f) ∧
    ∃ kV dc pm an cd ct, fd = PySem.W.fnOf x x (defArgs st) (defBody st) (defScope st) .none kV dc pm an cd ct := by
  obtain ⟨f, oc, od, an, sl, kV, dc, pm, cd, ct, a, l, c, k⟩ := D.ex
  exact ⟨f, _, fun_mk l c k, PySem.W.mg_of X G a, kV, dc, pm, an, cd, ct, rfl⟩
theorem kint_of {x : Str} {i : Int} {t : Tok} {h : Heap} (X : K.In h) (G : h.Ns mainGlobals mg) (a : PySem.W.nsIn K mainGlobals x = some (some (.int i t))) : KInt mg x i := ⟨t, PySem.W.mg_of X G a⟩
theorem all_mk {l : PySem.W.OpenLaw} {w : World} {h : Heap} {fa : Addr} (X : K.In h) (G : h.Ns mainGlobals mg) (hfa : mg "law" = some (.ref fa)) (d_is_integer : DefIn K "is_integer" s_is_integer) (d_is_step : DefIn K "is_step" s_is_step) (d_step_period : DefIn K "step_period" s_step_period) (d_is_pipeline : DefIn K "is_pipeline" s_is_pipeline) (d__law_cell_at : DefIn K "_law_cell_at" s_law_cell_at) (d__law_draws : DefIn K "_law_draws" s_law_draws) (d__law_spoilt : DefIn K "_law_spoilt" s_law_spoilt) (d__law_from : DefIn K "_law_from" s_law_from) (d__law_bag : DefIn K "_law_bag" s_law_bag) (d__law_bags : DefIn K "_law_bags" s_law_bags) (d__law_take : DefIn K "_law_take" s_law_take) (d__law_far_draw : DefIn K "_law_far_draw" s_law_far_draw) (d__law_odd : DefIn K "_law_odd" s_law_odd) (d__law_step_period : DefIn K "_law_step_period" s_law_step_period) (d__law_step : DefIn K "_law_step" s_law_step) (d__law_pipeline : DefIn K "_law_pipeline" s_law_pipeline) (d__law_product : DefIn K "_law_product" s_law_product) (d__law_is_step : DefIn K "_law_is_step" s_law_is_step) (d__law_is_pipeline : DefIn K "_law_is_pipeline" s_law_is_pipeline) (d_law : DefIn K "law" s_law) (y_isinstance : PySem.W.nsIn K mainGlobals "isinstance" = some none) (y_bool : PySem.W.nsIn K mainGlobals "bool" = some none) (y_int : PySem.W.nsIn K mainGlobals "int" = some none) (y_len : PySem.W.nsIn K mainGlobals "len" = some none) (y_str : PySem.W.nsIn K mainGlobals "str" = some none) (y_tuple : PySem.W.nsIn K mainGlobals "tuple" = some none) (y_all : PySem.W.nsIn K mainGlobals "all" = some none) (y_range : PySem.W.nsIn K mainGlobals "range" = some none) (y_list : PySem.W.nsIn K mainGlobals "list" = some none) (y_max : PySem.W.nsIn K mainGlobals "max" = some none) (y_min : PySem.W.nsIn K mainGlobals "min" = some none) (y_repr : PySem.W.nsIn K mainGlobals "repr" = some none) {t_OFFSET_BOUND : Tok} (q_OFFSET_BOUND : PySem.W.nsIn K mainGlobals "OFFSET_BOUND" = some (some (.int 1000000000 t_OFFSET_BOUND))) {t_MAX_PERIOD : Tok} (q_MAX_PERIOD : PySem.W.nsIn K mainGlobals "MAX_PERIOD" = some (some (.int 120 t_MAX_PERIOD))) {t_MAX_STEPS : Tok} (q_MAX_STEPS : PySem.W.nsIn K mainGlobals "MAX_STEPS" = some (some (.int 6 t_MAX_STEPS))) :
    ∃ fd : FuncData, (∀ (s : Shared) (v : Value), BindsTo s fd ⟨[v], []⟩ [("script", v)]) ∧ ∀ base : Heap, K.In base → base.Ns mainGlobals mg → FnOk l.prog w K mg base CX0 8 fa fd ["script"] (sp_law K) := by
  have z_isinstance := PySem.W.mg_none_of X G y_isinstance
  have z_bool := PySem.W.mg_none_of X G y_bool
  have z_int := PySem.W.mg_none_of X G y_int
  have z_len := PySem.W.mg_none_of X G y_len
  have z_str := PySem.W.mg_none_of X G y_str
  have z_tuple := PySem.W.mg_none_of X G y_tuple
  have z_all := PySem.W.mg_none_of X G y_all
  have z_range := PySem.W.mg_none_of X G y_range
  have z_list := PySem.W.mg_none_of X G y_list
  have z_max := PySem.W.mg_none_of X G y_max
  have z_min := PySem.W.mg_none_of X G y_min
  have z_repr := PySem.W.mg_none_of X G y_repr
  have g_OFFSET_BOUND := kint_of X G q_OFFSET_BOUND
  have g_MAX_PERIOD := kint_of X G q_MAX_PERIOD
  have g_MAX_STEPS := kint_of X G q_MAX_STEPS
  obtain ⟨f_is_integer, fd_is_integer, F_is_integer, m_is_integer, kV_is_integer, dc_is_integer, pm_is_integer, an_is_integer, cd_is_integer, ct_is_integer, e_is_integer⟩ := d_is_integer.at' X G
  have b_is_integer := F_is_integer.binds (ps := ["value", "low", "high"]) fun _ _ _ _ _ _ us hl => match us, hl with | [_, _, _], _ => rfl
  have c_is_integer : ∀ base : Heap, Can l.prog w K mg base 1 "is_integer" ["value", "low", "high"] (sp_is_integer K) := fun base => .mk' F_is_integer (ok_is_integer F_is_integer z_isinstance z_bool z_int) b_is_integer m_is_integer
  obtain ⟨f_is_step, fd_is_step, F_is_step, m_is_step, kV_is_step, dc_is_step, pm_is_step, an_is_step, cd_is_step, ct_is_step, e_is_step⟩ := d_is_step.at' X G
  have b_is_step := F_is_step.binds (ps := ["value"]) fun _ _ _ _ _ _ us hl => match us, hl with | [_], _ => rfl
  have c_is_step : ∀ base : Heap, Can l.prog w K mg base 2 "is_step" ["value"] (sp_is_step K) := fun base => .mk' F_is_step (ok_is_step F_is_step (c_is_integer base) z_len z_isinstance z_str z_tuple g_OFFSET_BOUND) b_is_step m_is_step
  obtain ⟨f_step_period, fd_step_period, F_step_period, m_step_period, kV_step_period, dc_step_period, pm_step_period, an_step_period, cd_step_period, ct_step_period, e_step_period⟩ := d_step_period.at' X G
  have b_step_period := F_step_period.binds (ps := ["step"]) fun _ _ _ _ _ _ us hl => match us, hl with | [_], _ => rfl
  have c_step_period : ∀ base : Heap, Can l.prog w K mg base 1 "step_period" ["step"] (sp_step_period K) := fun base => .mk' F_step_period (ok_step_period F_step_period) b_step_period m_step_period
  obtain ⟨f_is_pipeline, fd_is_pipeline, F_is_pipeline, m_is_pipeline, kV_is_pipeline, dc_is_pipeline, pm_is_pipeline, an_is_pipeline, cd_is_pipeline, ct_is_pipeline, e_is_pipeline⟩ := d_is_pipeline.at' X G
  have b_is_pipeline := F_is_pipeline.binds (ps := ["value"]) fun _ _ _ _ _ _ us hl => match us, hl with | [_], _ => rfl
  have c_is_pipeline : ∀ base : Heap, Can l.prog w K mg base 3 "is_pipeline" ["value"] (sp_is_pipeline K) := fun base => .mk' F_is_pipeline (ok_is_pipeline F_is_pipeline (c_step_period base) (c_is_step base) z_all z_len z_isinstance z_tuple g_MAX_PERIOD g_MAX_STEPS) b_is_pipeline m_is_pipeline
  obtain ⟨f__law_cell_at, fd__law_cell_at, F__law_cell_at, m__law_cell_at, kV__law_cell_at, dc__law_cell_at, pm__law_cell_at, an__law_cell_at, cd__law_cell_at, ct__law_cell_at, e__law_cell_at⟩ := d__law_cell_at.at' X G
  have b__law_cell_at := F__law_cell_at.binds (ps := ["script", "k"]) fun _ _ _ _ _ _ us hl => match us, hl with | [_, _], _ => rfl
  have c__law_cell_at : ∀ base : Heap, Can l.prog w K mg base 1 "_law_cell_at" ["script", "k"] (sp_law_cell_at K) := fun base => .mk' F__law_cell_at (ok_law_cell_at F__law_cell_at z_len) b__law_cell_at m__law_cell_at
  obtain ⟨f__law_draws, fd__law_draws, F__law_draws, m__law_draws, kV__law_draws, dc__law_draws, pm__law_draws, an__law_draws, cd__law_draws, ct__law_draws, e__law_draws⟩ := d__law_draws.at' X G
  have b__law_draws := F__law_draws.binds (ps := ["cell", "many", "size"]) fun _ _ _ _ _ _ us hl => match us, hl with | [_, _, _], _ => rfl
  have c__law_draws : ∀ base : Heap, Can l.prog w K mg base 1 "_law_draws" ["cell", "many", "size"] (sp_law_draws K) := fun base => .mk' F__law_draws (ok_law_draws F__law_draws z_range z_int) b__law_draws m__law_draws
  obtain ⟨f__law_odd, fd__law_odd, F__law_odd, m__law_odd, kV__law_odd, dc__law_odd, pm__law_odd, an__law_odd, cd__law_odd, ct__law_odd, e__law_odd⟩ := d__law_odd.at' X G
  have b__law_odd := F__law_odd.binds (ps := ["picks"]) fun _ _ _ _ _ _ us hl => match us, hl with | [_], _ => rfl
  have c__law_odd : ∀ base : Heap, Can l.prog w K mg base 1 "_law_odd" ["picks"] (sp_law_odd K) := fun base => .mk' F__law_odd (ok_law_odd F__law_odd z_len) b__law_odd m__law_odd
  obtain ⟨f__law_spoilt, fd__law_spoilt, F__law_spoilt, m__law_spoilt, kV__law_spoilt, dc__law_spoilt, pm__law_spoilt, an__law_spoilt, cd__law_spoilt, ct__law_spoilt, e__law_spoilt⟩ := d__law_spoilt.at' X G
  have b__law_spoilt := F__law_spoilt.binds (ps := ["thing", "picks"]) fun _ _ _ _ _ _ us hl => match us, hl with | [_, _], _ => rfl
  have c__law_spoilt : ∀ base : Heap, Can l.prog w K mg base 7 "_law_spoilt" ["thing", "picks"] (sp_law_spoilt K) := fun base => .mk' F__law_spoilt (ok_law_spoilt F__law_spoilt (c__law_odd base) z_tuple z_isinstance z_len z_list b__law_spoilt m__law_spoilt) b__law_spoilt m__law_spoilt
  obtain ⟨f__law_from, fd__law_from, F__law_from, m__law_from, kV__law_from, dc__law_from, pm__law_from, an__law_from, cd__law_from, ct__law_from, e__law_from⟩ := d__law_from.at' X G
  have b__law_from := F__law_from.binds (ps := ["thing", "least", "top"]) fun _ _ _ _ _ _ us hl => match us, hl with | [_, _, _], _ => rfl
  have c__law_from : ∀ base : Heap, Can l.prog w K mg base 1 "_law_from" ["thing", "least", "top"] (sp_law_from K) := fun base => .mk' F__law_from (ok_law_from F__law_from z_isinstance z_bool z_int) b__law_from m__law_from
  obtain ⟨f__law_bag, fd__law_bag, F__law_bag, m__law_bag, kV__law_bag, dc__law_bag, pm__law_bag, an__law_bag, cd__law_bag, ct__law_bag, e__law_bag⟩ := d__law_bag.at' X G
  have b__law_bag := F__law_bag.binds (ps := ["script", "k"]) fun _ _ _ _ _ _ us hl => match us, hl with | [_, _], _ => rfl
  have c__law_bag : ∀ base : Heap, Can l.prog w K mg base 2 "_law_bag" ["script", "k"] (sp_law_bag K) := fun base => .mk' F__law_bag (ok_law_bag F__law_bag (c__law_draws base) (c__law_cell_at base)) b__law_bag m__law_bag
  obtain ⟨f__law_bags, fd__law_bags, F__law_bags, m__law_bags, kV__law_bags, dc__law_bags, pm__law_bags, an__law_bags, cd__law_bags, ct__law_bags, e__law_bags⟩ := d__law_bags.at' X G
  have b__law_bags := F__law_bags.binds (ps := ["script", "limit"]) fun _ _ _ _ _ _ us hl => match us, hl with | [_, _], _ => rfl
  have c__law_bags : ∀ base : Heap, Can l.prog w K mg base 3 "_law_bags" ["script", "limit"] (sp_law_bags K) := fun base => .mk' F__law_bags (ok_law_bags F__law_bags (c__law_bag base) z_range z_max z_min z_len) b__law_bags m__law_bags
  obtain ⟨f__law_take, fd__law_take, F__law_take, m__law_take, kV__law_take, dc__law_take, pm__law_take, an__law_take, cd__law_take, ct__law_take, e__law_take⟩ := d__law_take.at' X G
  have b__law_take := F__law_take.binds (ps := ["bag", "many"]) fun _ _ _ _ _ _ us hl => match us, hl with | [_, _], _ => rfl
  have c__law_take : ∀ base : Heap, Can l.prog w K mg base 1 "_law_take" ["bag", "many"] (sp_law_take K) := fun base => .mk' F__law_take (ok_law_take F__law_take z_len) b__law_take m__law_take
  obtain ⟨f__law_far_draw, fd__law_far_draw, F__law_far_draw, m__law_far_draw, kV__law_far_draw, dc__law_far_draw, pm__law_far_draw, an__law_far_draw, cd__law_far_draw, ct__law_far_draw, e__law_far_draw⟩ := d__law_far_draw.at' X G
  have b__law_far_draw := F__law_far_draw.binds (ps := ["bag", "many"]) fun _ _ _ _ _ _ us hl => match us, hl with | [_, _], _ => rfl
  have c__law_far_draw : ∀ base : Heap, Can l.prog w K mg base 2 "_law_far_draw" ["bag", "many"] (sp_law_far_draw K) := fun base => .mk' F__law_far_draw (ok_law_far_draw F__law_far_draw (c__law_take base)) b__law_far_draw m__law_far_draw
  obtain ⟨f__law_step_period, fd__law_step_period, F__law_step_period, m__law_step_period, kV__law_step_period, dc__law_step_period, pm__law_step_period, an__law_step_period, cd__law_step_period, ct__law_step_period, e__law_step_period⟩ := d__law_step_period.at' X G
  have b__law_step_period := F__law_step_period.binds (ps := ["step"]) fun _ _ _ _ _ _ us hl => match us, hl with | [_], _ => rfl
  have c__law_step_period : ∀ base : Heap, Can l.prog w K mg base 1 "_law_step_period" ["step"] (sp_law_step_period K) := fun base => .mk' F__law_step_period (ok_law_step_period F__law_step_period) b__law_step_period m__law_step_period
  obtain ⟨f__law_step, fd__law_step, F__law_step, m__law_step, kV__law_step, dc__law_step, pm__law_step, an__law_step, cd__law_step, ct__law_step, e__law_step⟩ := d__law_step.at' X G
  have b__law_step := F__law_step.binds (ps := ["bag", "limit"]) fun _ _ _ _ _ _ us hl => match us, hl with | [_, _], _ => rfl
  have c__law_step : ∀ base : Heap, Can l.prog w K mg base 3 "_law_step" ["bag", "limit"] (sp_law_step K) := fun base => .mk' F__law_step (ok_law_step F__law_step (c__law_take base) (c__law_far_draw base) z_min) b__law_step m__law_step
  obtain ⟨f__law_pipeline, fd__law_pipeline, F__law_pipeline, m__law_pipeline, kV__law_pipeline, dc__law_pipeline, pm__law_pipeline, an__law_pipeline, cd__law_pipeline, ct__law_pipeline, e__law_pipeline⟩ := d__law_pipeline.at' X G
  have b__law_pipeline := F__law_pipeline.binds (ps := ["bag", "most", "limit"]) fun _ _ _ _ _ _ us hl => match us, hl with | [_, _, _], _ => rfl
  have c__law_pipeline : ∀ base : Heap, Can l.prog w K mg base 4 "_law_pipeline" ["bag", "most", "limit"] (sp_law_pipeline K) := fun base => .mk' F__law_pipeline (ok_law_pipeline F__law_pipeline (c__law_take base) (c__law_step_period base) (c__law_step base) z_tuple z_range) b__law_pipeline m__law_pipeline
  obtain ⟨f__law_product, fd__law_product, F__law_product, m__law_product, kV__law_product, dc__law_product, pm__law_product, an__law_product, cd__law_product, ct__law_product, e__law_product⟩ := d__law_product.at' X G
  have b__law_product := F__law_product.binds (ps := ["pipeline"]) fun _ _ _ _ _ _ us hl => match us, hl with | [_], _ => rfl
  have c__law_product : ∀ base : Heap, Can l.prog w K mg base 2 "_law_product" ["pipeline"] (sp_law_product K) := fun base => .mk' F__law_product (ok_law_product F__law_product (c__law_step_period base)) b__law_product m__law_product
  obtain ⟨f__law_is_step, fd__law_is_step, F__law_is_step, m__law_is_step, kV__law_is_step, dc__law_is_step, pm__law_is_step, an__law_is_step, cd__law_is_step, ct__law_is_step, e__law_is_step⟩ := d__law_is_step.at' X G
  have b__law_is_step := F__law_is_step.binds (ps := ["value"]) fun _ _ _ _ _ _ us hl => match us, hl with | [_], _ => rfl
  have c__law_is_step : ∀ base : Heap, Can l.prog w K mg base 2 "_law_is_step" ["value"] (sp_law_is_step K) := fun base => .mk' F__law_is_step (ok_law_is_step F__law_is_step (c__law_from base) z_len z_isinstance z_str z_tuple) b__law_is_step m__law_is_step
  obtain ⟨f__law_is_pipeline, fd__law_is_pipeline, F__law_is_pipeline, m__law_is_pipeline, kV__law_is_pipeline, dc__law_is_pipeline, pm__law_is_pipeline, an__law_is_pipeline, cd__law_is_pipeline, ct__law_is_pipeline, e__law_is_pipeline⟩ := d__law_is_pipeline.at' X G
  have b__law_is_pipeline := F__law_is_pipeline.binds (ps := ["value"]) fun _ _ _ _ _ _ us hl => match us, hl with | [_], _ => rfl
  have c__law_is_pipeline : ∀ base : Heap, Can l.prog w K mg base 3 "_law_is_pipeline" ["value"] (sp_law_is_pipeline K) := fun base => .mk' F__law_is_pipeline (ok_law_is_pipeline F__law_is_pipeline (c__law_product base) (c__law_is_step base) z_all z_len z_isinstance z_tuple) b__law_is_pipeline m__law_is_pipeline
  obtain ⟨f_law, fd_law, F_law, m_law, kV_law, dc_law, pm_law, an_law, cd_law, ct_law, e_law⟩ := d_law.at' X G
  have ee := hfa.symm.trans m_law
  cases ee
  subst e_law
  exact ⟨_, fun s v => .of_eq rfl, fun base _ _ => ok_law F_law (c_is_pipeline base) (c__law_bags base) (c__law_odd base) (c_is_step base) (c__law_is_step base) (c__law_is_pipeline base) (c__law_spoilt base) (c__law_pipeline base) z_repr z_list⟩
end
end My
open PySem PySem.W PyProof.Rows
set_option maxRecDepth 100000 in
set_option maxHeartbeats 0 in
theorem PySem.Challenge.cw_stepscale_k01_steps_and_pipelines_recogn_holds : PySem.Challenge.rw_stepscale_k01_steps_and_pipelines_recogn.Holds := by
  w_on; o_law; k_head; (case hw => w_witness2)
  k_fill
  refine L2.walk_of (l := PySem.Challenge.rw_stepscale_k01_steps_and_pipelines_recogn) (n := 63) (k := 8) (x := "script") (CX := fun _ => L2.CX0) (sp := fun w => My.sp_law _) rfl (by decide) rfl ⟨rfl, by decide, by decide⟩ (fun w h Y => PySem.W.kIn_of Y) ?F (fun _ _ a ns hl _ hS => ⟨a, ns, rfl, hS, fun _ => rfl⟩) (fun _ _ _ _ _ h => h)
  case F =>
    intro w mg fa h KX G hmg
    refine' My.all_mk KX G hmg ?d_is_integer ?d_is_step ?d_step_period ?d_is_pipeline ?d__law_cell_at ?d__law_draws ?d__law_spoilt ?d__law_from ?d__law_bag ?d__law_bags ?d__law_take ?d__law_far_draw ?d__law_odd ?d__law_step_period ?d__law_step ?d__law_pipeline ?d__law_product ?d__law_is_step ?d__law_is_pipeline ?d_law ?y_isinstance ?y_bool ?y_int ?y_len ?y_str ?y_tuple ?y_all ?y_range ?y_list ?y_max ?y_min ?y_repr ?q_OFFSET_BOUND ?q_MAX_PERIOD ?q_MAX_STEPS
    (case d_is_integer => (refine' My.DefIn.mk' ?a ?l ?c ?k; (case a => k_is); (case l => k_is); (case c => k_is); (case k => k_is)))
    (case d_is_step => (refine' My.DefIn.mk' ?a ?l ?c ?k; (case a => k_is); (case l => k_is); (case c => k_is); (case k => k_is)))
    (case d_step_period => (refine' My.DefIn.mk' ?a ?l ?c ?k; (case a => k_is); (case l => k_is); (case c => k_is); (case k => k_is)))
    (case d_is_pipeline => (refine' My.DefIn.mk' ?a ?l ?c ?k; (case a => k_is); (case l => k_is); (case c => k_is); (case k => k_is)))
    (case d__law_cell_at => (refine' My.DefIn.mk' ?a ?l ?c ?k; (case a => k_is); (case l => k_is); (case c => k_is); (case k => k_is)))
    (case d__law_draws => (refine' My.DefIn.mk' ?a ?l ?c ?k; (case a => k_is); (case l => k_is); (case c => k_is); (case k => k_is)))
    (case d__law_spoilt => (refine' My.DefIn.mk' ?a ?l ?c ?k; (case a => k_is); (case l => k_is); (case c => k_is); (case k => k_is)))
    (case d__law_from => (refine' My.DefIn.mk' ?a ?l ?c ?k; (case a => k_is); (case l => k_is); (case c => k_is); (case k => k_is)))
    (case d__law_bag => (refine' My.DefIn.mk' ?a ?l ?c ?k; (case a => k_is); (case l => k_is); (case c => k_is); (case k => k_is)))
    (case d__law_bags => (refine' My.DefIn.mk' ?a ?l ?c ?k; (case a => k_is); (case l => k_is); (case c => k_is); (case k => k_is)))
    (case d__law_take => (refine' My.DefIn.mk' ?a ?l ?c ?k; (case a => k_is); (case l => k_is); (case c => k_is); (case k => k_is)))
    (case d__law_far_draw => (refine' My.DefIn.mk' ?a ?l ?c ?k; (case a => k_is); (case l => k_is); (case c => k_is); (case k => k_is)))
    (case d__law_odd => (refine' My.DefIn.mk' ?a ?l ?c ?k; (case a => k_is); (case l => k_is); (case c => k_is); (case k => k_is)))
    (case d__law_step_period => (refine' My.DefIn.mk' ?a ?l ?c ?k; (case a => k_is); (case l => k_is); (case c => k_is); (case k => k_is)))
    (case d__law_step => (refine' My.DefIn.mk' ?a ?l ?c ?k; (case a => k_is); (case l => k_is); (case c => k_is); (case k => k_is)))
    (case d__law_pipeline => (refine' My.DefIn.mk' ?a ?l ?c ?k; (case a => k_is); (case l => k_is); (case c => k_is); (case k => k_is)))
    (case d__law_product => (refine' My.DefIn.mk' ?a ?l ?c ?k; (case a => k_is); (case l => k_is); (case c => k_is); (case k => k_is)))
    (case d__law_is_step => (refine' My.DefIn.mk' ?a ?l ?c ?k; (case a => k_is); (case l => k_is); (case c => k_is); (case k => k_is)))
    (case d__law_is_pipeline => (refine' My.DefIn.mk' ?a ?l ?c ?k; (case a => k_is); (case l => k_is); (case c => k_is); (case k => k_is)))
    (case d_law => (refine' My.DefIn.mk' ?a ?l ?c ?k; (case a => k_is); (case l => k_is); (case c => k_is); (case k => k_is)))
    (case y_isinstance => k_is)
    (case y_bool => k_is)
    (case y_int => k_is)
    (case y_len => k_is)
    (case y_str => k_is)
    (case y_tuple => k_is)
    (case y_all => k_is)
    (case y_range => k_is)
    (case y_list => k_is)
    (case y_max => k_is)
    (case y_min => k_is)
    (case y_repr => k_is)
    (case q_OFFSET_BOUND => k_is)
    (case q_MAX_PERIOD => k_is)
    (case q_MAX_STEPS => k_is)
