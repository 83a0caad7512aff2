import PyProof.Rows.All
import Wide.All
import OpenK.AllK
import Wide.FinOn
import HandS.ForMost
import HandS.IsInst
import PySem.Challenge.RW_stepscale_k02_values_of_pipelines
set_option Elab.async false
set_option linter.all false
set_option maxRecDepth 100000
set_option maxHeartbeats 4000000
set_option autoImplicit false
namespace My
open PySem L2

/-! ### heaps -/
theorem Same.up {H H1 : Hp} {p : Addr} {o : HO} (h : Same H H1) (n : H1 p = none) : Same H (L2.upd H1 p o) := fun b x e => by
  rw [upd_ne (ne_of_none (h b x e) n)]; exact h b x e
theorem Same.upN {H H1 : Hp} {p : Addr} {o : HO} (h : Same H H1) (n : H p = none) : Same H (L2.upd H1 p o) := fun b x e => by
  rw [upd_ne (ne_of_none e n)]; exact h b x e
theorem Rd.same {H H' : Hp} {a : Addr} {u : HO} (e : Same H H') (h : Rd H a u) : Rd H' a u := by
  rcases h with h | ⟨o, h⟩
  · exact .inl (e _ _ h)
  · exact .inr ⟨o, e _ _ h⟩
theorem SqL.same {K : PySem.W.Frag} {H H' : Hp} {a : Addr} {xs : List V} (e : Same H H') (h : SqL K H a xs) : SqL K H' a xs := e.seq h
theorem SqT.same {K : PySem.W.Frag} {H H' : Hp} {a : Addr} {xs : List V} (e : Same H H') (h : SqT K H a xs) : SqT K H' a xs := by
  rcases h with h | h
  · exact .inl (Rd.same e h)
  · exact .inr h
/-- tuples stay where a list is written -/
theorem SqT.updL {K : PySem.W.Frag} {H : Hp} {a l : Addr} {xs ys : List V} {o : HO} (h : SqT K H a xs) (hl : H l = some (.lst ys)) : SqT K (L2.upd H l o) a xs := by
  rcases h with (h | ⟨ob, h⟩) | h
  · exact .inl (.inl (by rw [upd_ne (ne_of h hl (by intro z; cases z))]; exact h))
  · exact .inl (.inr ⟨ob, by rw [upd_ne (ne_of h hl (by intro z; cases z))]; exact h⟩)
  · exact .inr h
theorem SqT.new {K : PySem.W.Frag} {H : Hp} {a : Addr} {xs : List V} : SqT K (L2.upd H a (.tup xs)) a xs := SqT.of upd_same
theorem SqL.new {K : PySem.W.Frag} {H : Hp} {a : Addr} {xs : List V} : SqL K (L2.upd H a (.lst xs)) a xs := SqL.of upd_same
mutual
theorem Dp.same {K : PySem.W.Frag} {H H' : Hp} (e : Same H H') : ∀ {v : V} {d : PyData}, Dp K H v d → Dp K H' v d
  | _, _, .non => .non
  | _, _, .bl b => .bl b
  | _, _, .int i => .int i
  | _, _, .str x => .str x
  | _, _, .lst h a => .lst (e.seq h) (DpAll.same e a)
  | _, _, .tup h a => .tup (SqT.same e h) (DpAll.same e a)
theorem DpAll.same {K : PySem.W.Frag} {H H' : Hp} (e : Same H H') : ∀ {v : List V} {d : List PyData}, DpAll K H v d → DpAll K H' v d
  | _, _, .nil => .nil
  | _, _, .cons h t => .cons (Dp.same e h) (DpAll.same e t)
end

/-! ### calls -/
structure Can (P : Program) (w : World) (K : PySem.W.Frag) (mg : Str → Option Value) (base : Heap) (k : Nat) (x : Str) (ps : List Str) (sp : Sp) : Prop where
  ex : ∃ f fd, FnOk P w K mg base CX0 k f fd ps sp ∧ Binds K fd ps [] ∧ mg x = some (.ref f) ∧ PySem.W.keepIn K (.ref f) = true
theorem Can.mk' {P : Program} {w : World} {K : PySem.W.Frag} {mg : Str → Option Value} {base : Heap} {k : Nat} {x : Str} {ps : List Str} {sp : Sp} {f : Addr} {fd : FuncData} {q : Str} {st : Stmt}
    (F : Fun K x q st f fd) (G : FnOk P w K mg base CX0 k f fd ps sp) (b : Binds K fd ps []) (m : mg x = some (.ref f)) : Can P w K mg base k x ps sp := ⟨f, fd, G, b, m, F.kp⟩
/-- a module's int -/
def KInt (mg : Str → Option Value) (x : Str) (i : Int) : Prop := ∃ t, mg x = some (.int i t)
section
variable {X : Cx} {k : Nat} {x : Str} {ps : List Str} {sp : Sp} {p pos : Pos} {e : Expr} {es : List Expr} {t : TA}
def tCan (sp : Sp) (t : TA) : TE := fun σ H Q => t σ H fun vs H1 => sp vs H1 Q E0
theorem pe_can (C : Can X.prog X.w X.K X.mg X.base k x ps sp) (hr : Room k X.A) (hg : Gl X x) (ha : PA X (e :: es) t) (hdb : (x == ("__debug__" : Str)) = false := by decide)
    (hs : starEach (e :: es) X.env = (false, eval e X.env) :: starEach es X.env := by rfl) (hpl : (backTo pos (starEach es X.env)).any (·.1) = false := by rfl) : PE X (.Call (.Name x p) (e :: es) [] pos) (tCan sp t) := by
  obtain ⟨f, fd, F, b, m, kp⟩ := C.ex
  refine ⟨fun pins s σ H Q I h => ?_⟩
  exact (pe_call F hr hg m kp b .nil pass0 ha hdb hs hpl).run pins s σ H Q I (by
    show t σ H fun vs H1 => sp (vs ++ []) H1 Q E0
    simp only [List.append_nil]
    exact h)
theorem pe_k {i : Int} (hg : Gl X x) (g : KInt X.mg x i) (hd : (x == ("__debug__" : Str)) = false := by decide) : PE X (.Name x pos) (tC (.int i)) := by
  obtain ⟨t, h⟩ := g
  exact pe_glob hg h ⟨t, rfl⟩ hd
end

/-! ### readings by name -/
def nLen (K : PySem.W.Frag) : List V → Hp → VK → Prop := fun xs H Q => ∃ p ys, xs = [.ref p] ∧ (SqL K H p ys ∨ SqT K H p ys) ∧ Q (.int ys.length) H
def nInt : List V → Hp → VK → Prop := fun xs H Q => (∃ i, xs = [.int i] ∧ Q (.int i) H) ∨ ∃ k, xs = [.bl k] ∧ Q (.int (if k then 1 else 0)) H
def nAbs : List V → Hp → VK → Prop := fun xs H Q => ∃ i, xs = [.int i] ∧ Q (.int (if i < 0 then -i else i)) H
def nMax : List V → Hp → VK → Prop := fun xs H Q => ∃ i j, xs = [.int i, .int j] ∧ Q (.int (if j > i then j else i)) H
def nMin : List V → Hp → VK → Prop := fun xs H Q => ∃ i j, xs = [.int i, .int j] ∧ Q (.int (if j < i then j else i)) H
def nTup (K : PySem.W.Frag) : List V → Hp → VK → Prop := fun xs H Q => ∃ p ys, xs = [.ref p] ∧ ((SqL K H p ys ∧ ∀ l, H l = none → Q (.ref l) (L2.upd H l (.tup ys))) ∨ (SqT K H p ys ∧ Q (.ref p) H))
def nLst (K : PySem.W.Frag) : List V → Hp → VK → Prop := fun xs H Q => ∃ p ys, xs = [.ref p] ∧ (SqL K H p ys ∨ SqT K H p ys) ∧ ∀ l, H l = none → Q (.ref l) (L2.upd H l (.lst ys))
section
variable {X : Cx}
theorem kint1 : CallR X (.type "int") nInt := call_int1
theorem kabs : CallR X (.builtin "abs") nAbs := call_abs
theorem kmax2 (hc : X.calm = true := by rfl) : CallR X (.builtin "max") nMax := call_max2 hc
theorem kmin2 (hc : X.calm = true := by rfl) : CallR X (.builtin "min") nMin := call_min2 hc
end
section
variable {H : Hp} {Q : VK} {K : PySem.W.Frag}
theorem r_lenL {p : Addr} {ys : List V} (h : SqL K H p ys) (q : Q (.int ys.length) H) : nLen K [.ref p] H Q := ⟨p, ys, rfl, .inl h, q⟩
theorem r_lenT {p : Addr} {ys : List V} (h : SqT K H p ys) (q : Q (.int ys.length) H) : nLen K [.ref p] H Q := ⟨p, ys, rfl, .inr h, q⟩
theorem r_inti {i : Int} (q : Q (.int i) H) : nInt [.int i] H Q := .inl ⟨i, rfl, q⟩
theorem r_intb {k : Bool} (q : Q (.int (if k then 1 else 0)) H) : nInt [.bl k] H Q := .inr ⟨k, rfl, q⟩
theorem r_abs {i : Int} (q : Q (.int (if i < 0 then -i else i)) H) : nAbs [.int i] H Q := ⟨i, rfl, q⟩
theorem r_max2 {i j : Int} (q : Q (.int (if j > i then j else i)) H) : nMax [.int i, .int j] H Q := ⟨i, j, rfl, q⟩
theorem r_min2 {i j : Int} (q : Q (.int (if j < i then j else i)) H) : nMin [.int i, .int j] H Q := ⟨i, j, rfl, q⟩
theorem r_tupL {p : Addr} {ys : List V} (h : SqL K H p ys) (q : ∀ l, H l = none → Q (.ref l) (L2.upd H l (.tup ys))) : nTup K [.ref p] H Q := ⟨p, ys, rfl, .inl ⟨h, q⟩⟩
theorem r_tupT {p : Addr} {ys : List V} (h : SqT K H p ys) (q : Q (.ref p) H) : nTup K [.ref p] H Q := ⟨p, ys, rfl, .inr ⟨h, q⟩⟩
theorem r_lstL {p : Addr} {ys : List V} (h : SqL K H p ys) (q : ∀ l, H l = none → Q (.ref l) (L2.upd H l (.lst ys))) : nLst K [.ref p] H Q := ⟨p, ys, rfl, .inl h, q⟩
theorem r_lstT {p : Addr} {ys : List V} (h : SqT K H p ys) (q : ∀ l, H l = none → Q (.ref l) (L2.upd H l (.lst ys))) : nLst K [.ref p] H Q := ⟨p, ys, rfl, .inr h, q⟩
end

/-! ### readings, from the left -/
section
variable {σ : St} {H : Hp} {Q : VK} {K : PySem.W.Frag} {D : Ends}
theorem r_var {i : Nat} {v : V} (e : σ[i]? = some (some v)) (h : Q v H) : tVar i σ H Q := ⟨v, e, h⟩
theorem r_c {v : V} (h : Q v H) : tC v σ H Q := h
theorem r_op {r : R2} {ta tb : TE} (h : ta σ H fun x H1 => tb σ H1 fun y H2 => r x y H2 Q) : tOp r ta tb σ H Q := h
theorem r_un {r : V → Hp → VK → Prop} {ta : TE} (h : ta σ H fun x H1 => r x H1 Q) : tUn r ta σ H Q := h
theorem r_i0 {g : Int → Int → V} {i j : Int} (h : Q (g i j) H) : rI0 g (.int i) (.int j) H Q := ⟨i, j, rfl, rfl, h⟩
theorem r_mul {g : Int → Int → V} {i j : Int} (c : CMul i j) (h : Q (g i j) H) : rI CMul g (.int i) (.int j) H Q := ⟨i, j, rfl, rfl, c, h⟩
theorem r_div {g : Int → Int → V} {i j : Int} (c : CDiv i j) (h : Q (g i j) H) : rI CDiv g (.int i) (.int j) H Q := ⟨i, j, rfl, rfl, c, h⟩
theorem r_divN {g : Int → Int → V} {i j : Int} (c : CDivN i j) (h : Q (g i j) H) : rI CDivN g (.int i) (.int j) H Q := ⟨i, j, rfl, rfl, c, h⟩
theorem r_pow {g : Int → Int → V} {i j : Int} (c : CPow i j) (h : Q (g i j) H) : rI CPow g (.int i) (.int j) H Q := ⟨i, j, rfl, rfl, c, h⟩
theorem r_mod {g : Int → Int → V} {i j : Int} (c : 0 < j) (h : Q (g i j) H) : rI (fun _ j => 0 < j) g (.int i) (.int j) H Q := ⟨i, j, rfl, rfl, c, h⟩
theorem r_modN {g : Int → Int → V} {i j : Int} (c : j ≠ 0) (h : Q (g i j) H) : rI (fun _ j => j ≠ 0) g (.int i) (.int j) H Q := ⟨i, j, rfl, rfl, c, h⟩
theorem r_u {g : Int → V} {i : Int} (h : Q (g i) H) : rU g (.int i) H Q := ⟨i, rfl, h⟩
theorem r_eq {x y : V} (c : scal x y = true) (h : Q (.bl (decide (x = y))) H) : rEq x y H Q := ⟨c, h⟩
theorem r_ne {x y : V} (c : scal x y = true) (h : Q (.bl (!decide (x = y))) H) : rNe x y H Q := ⟨c, h⟩
theorem r_test {t : TE} {Q : Bool → Hp → Prop} (h : t σ H fun x H' => ∃ k, x = .bl k ∧ Q k H') : tTest t σ H Q := h
theorem r_b {t : TE} {Q : Bool → Hp → Prop} (h : t σ H fun x H' => ∃ k, x = .bl k ∧ Q k H') : tB t σ H Q := h
theorem r_exb {b : Bool} {Q : Bool → Prop} (h : Q b) : ∃ k, V.bl b = .bl k ∧ Q k := ⟨b, rfl, h⟩
theorem r_exi {b : Int} {Q : Int → Prop} (h : Q b) : ∃ k, V.int b = .int k ∧ Q k := ⟨b, rfl, h⟩
theorem r_and {t u : TT} {Q : Bool → Hp → Prop} (h : t σ H fun c H1 => if c = true then u σ H1 Q else Q false H1) : tAnd t u σ H Q := h
theorem r_or {t u : TT} {Q : Bool → Hp → Prop} (h : t σ H fun c H1 => if c = true then Q true H1 else u σ H1 Q) : tOr t u σ H Q := h
theorem r_not {t : TT} {Q : Bool → Hp → Prop} (h : t σ H fun c H1 => Q (!c) H1) : tNot t σ H Q := h
theorem r_andV {ta tb : TE} (h : ta σ H fun x H1 => ∃ c, x = .bl c ∧ if c = true then tb σ H1 Q else Q (.bl false) H1) : tAndV ta tb σ H Q := h
theorem r_orV {ta tb : TE} (h : ta σ H fun x H1 => ∃ c, x = .bl c ∧ if c = true then Q (.bl true) H1 else tb σ H1 Q) : tOrV ta tb σ H Q := h
theorem r_notV {ta : TE} (h : ta σ H fun x H1 => ∃ c, x = .bl c ∧ Q (.bl (!c)) H1) : tNotV ta σ H Q := h
theorem r_if {t : TT} {ta tb : TE} (h : t σ H fun c H1 => if c = true then ta σ H1 Q else tb σ H1 Q) : tIf t ta tb σ H Q := h
theorem r_chain {r r' : R2} {ta tb tc : TE} (h : ta σ H fun x H1 => tb σ H1 fun y H2 => r x y H2 fun z H3 => ∃ k, z = .bl k ∧ (if k = true then tc σ H3 fun u H4 => r' y u H4 Q else Q (.bl false) H3)) : tChain r r' ta tb tc σ H Q := by
  first | exact h | (unfold tChain; exact h)
theorem r_cons {ta : TE} {tr : TA} {Q : List V → Hp → Prop} (h : ta σ H fun x H1 => tr σ H1 fun xs H2 => Q (x :: xs) H2) : tCons ta tr σ H Q := h
theorem r_nil {Q : List V → Hp → Prop} (h : Q [] H) : tNil σ H Q := h
theorem r_tup {t : TA} (h : t σ H fun xs H1 => xs.length ≤ sizeLine ∧ ∀ p, H1 p = none → Q (.ref p) (L2.upd H1 p (.tup xs))) : tTup t σ H Q := h
theorem r_lst {t : TA} (h : t σ H fun xs H1 => xs.length ≤ sizeLine ∧ ∀ p, H1 p = none → Q (.ref p) (L2.upd H1 p (.lst xs))) : tLst t σ H Q := h
theorem r_small {A : Prop} {xs : List V} {n : Nat} (e : xs.length ≤ n) (h : n ≤ sizeLine) (a : A) : xs.length ≤ sizeLine ∧ A := ⟨Nat.le_trans e h, a⟩
theorem r_can {sp : Sp} {t : TA} (h : t σ H fun vs H1 => sp vs H1 Q E0) : tCan sp t σ H Q := h
theorem r_cb {r : List V → Hp → VK → Prop} {t : TA} (h : t σ H fun vs H1 => r vs H1 Q) : tCB r t σ H Q := h
theorem r_ixT {p : Addr} {xs : List V} {i : Int} {v : V} (h : SqT K H p xs) (e : atI xs i = some v) (q : Q v H) : rIxT K (.ref p) (.int i) H Q := ⟨p, xs, i, v, rfl, rfl, h, e, q⟩
theorem r_ixL {p : Addr} {xs : List V} {i : Int} {v : V} (h : SqL K H p xs) (e : atI xs i = some v) (q : Q v H) : rIxL K (.ref p) (.int i) H Q := ⟨p, xs, i, v, rfl, rfl, h, e, q⟩
theorem r_ix {x y : V} (q : rIxL K x y H Q ∨ rIxT K x y H Q ∨ rIxS x y H Q) : rIx K x y H Q := q
theorem r_bm {T : String} {r : V → List V → Hp → VK → Prop} {to : TE} {t : TA} (h : to σ H fun x H1 => tyV K T x H1 ∧ t σ H1 fun xs H2 => r x xs H2 Q) : tBM K T r to t σ H Q := h
theorem r_bm0 {T : String} {r : V → List V → Hp → VK → Prop} {to : TE} (h : to σ H fun x H1 => tyV K T x H1 ∧ r x [] H1 Q) : tBM0 K T r to σ H Q := h
theorem r_append {l : Addr} {xs : List V} {y : V} (h : H l = some (.lst xs)) (s : xs.length < sizeLine) (q : Q .non (L2.upd H l (.lst (xs ++ [y])))) : rAppend (.ref l) [y] H Q := ⟨l, xs, y, rfl, rfl, h, s, q⟩
/-- statements -/
theorem s_seq {t u : TS} (h : t { D with nx := u D } σ H) : tSeq t u D σ H := h
theorem s_next (h : D.nx σ H) : tNext D σ H := h
theorem s_asg {te : TE} {g : TG} (h : te σ H fun x H1 => g x σ H1 D.nx) : tAsg te g D σ H := h
theorem s_name {i : Nat} {v : V} {Q : St → Hp → Prop} (h : Q (σ.set i (some v)) H) : gName i v σ H Q := h
theorem s_par {i j : Nat} {ta : TA} (h : ta σ H fun vs H1 => ∃ v w, vs = [v, w] ∧ D.nx ((σ.set i (some v)).set j (some w)) H1) : tPar i j ta D σ H := h
theorem s_par2 {v w : V} {A : V → V → Prop} (h : A v w) : ∃ v' w', [v, w] = [v', w'] ∧ A v' w' := ⟨v, w, rfl, h⟩
theorem s_drop {te : TE} (h : te σ H fun _ H1 => D.nx σ H1) : tDrop te D σ H := h
theorem s_ret {te : TE} (h : te σ H D.rt) : tRet te D σ H := h
theorem s_retN (h : D.rt .non H) : tRetN D σ H := h
theorem s_if {c : TT} {t u : TS} (h : c σ H fun b H1 => if b = true then t D σ H1 else u D σ H1) : tIfS c t u D σ H := h
theorem s_tupT {p : Addr} {xs : List V} {n : Nat} {t : TGs} {Q : St → Hp → Prop} (h : SqT K H p xs) (e : xs.length = n) (q : t xs σ H Q) : gTup K n t (.ref p) σ H Q := ⟨p, xs, rfl, h, e, q⟩
theorem s_gcons {t : TG} {u : TGs} {v : V} {r : List V} {Q : St → Hp → Prop} (h : t v σ H fun σ' H' => u r σ' H' Q) : gCons t u (v :: r) σ H Q := ⟨v, r, rfl, h⟩
theorem s_gnil {Q : St → Hp → Prop} (h : Q σ H) : gNil [] σ H Q := ⟨rfl, h⟩
theorem ifb {c A B : Prop} [Decidable c] (h1 : c → A) (h2 : ¬ c → B) : if decide c = true then A else B := by
  by_cases h : c
  · rw [decide_eq_true h]; exact iteT (h1 h)
  · rw [decide_eq_false h]; exact iteF (h2 h)
theorem ifnb {c A B : Prop} [Decidable c] (h1 : ¬ c → A) (h2 : c → B) : if (!decide c) = true then A else B := by
  by_cases h : c
  · rw [decide_eq_true h]; exact iteF (h2 h)
  · rw [decide_eq_false h]; exact iteT (h1 h)
theorem ifB {c : Bool} {A B : Prop} (h1 : c = true → A) (h2 : c = false → B) : if c = true then A else B := by
  cases c
  · exact iteF (h2 rfl)
  · exact iteT (h1 rfl)
theorem dec_vint {i j : Int} {A B : Prop} (h : if decide (i = j) = true then A else B) : if decide (V.int i = V.int j) = true then A else B := by
  have e : decide (V.int i = V.int j) = decide (i = j) := by
    by_cases q : i = j
    · subst q; simp
    · rw [decide_eq_false q, decide_eq_false (fun z => q (V.int.inj z))]
  rw [e]; exact h
theorem dec_vintn {i j : Int} {A B : Prop} (h : if (!decide (i = j)) = true then A else B) : if (!decide (V.int i = V.int j)) = true then A else B := by
  have e : decide (V.int i = V.int j) = decide (i = j) := by
    by_cases q : i = j
    · subst q; simp
    · rw [decide_eq_false q, decide_eq_false (fun z => q (V.int.inj z))]
  rw [e]; exact h
end
theorem sz_le {n : Nat} (h : n ≤ 16777216) : n ≤ sizeLine := by rw [PySem.sizeLine_eq]; exact h
theorem sz_lt {n : Nat} (h : n < 16777216) : n < sizeLine := by rw [PySem.sizeLine_eq]; exact h

/-! ### the rules with K said -/
section
variable {X : Cx} (K : PySem.W.Frag)
theorem kix_list (h : X.K = K := by rfl) : IxR X (rIxL K) := by subst h; exact ix_list
theorem kix_tup (h : X.K = K := by rfl) : IxR X (rIxT K) := by subst h; exact ix_tup
theorem kix_seq (h : X.K = K := by rfl) : IxR X (rIx K) := by subst h; exact ix_seq
theorem klen (h : X.K = K := by rfl) : CallR X (.builtin "len") (nLen K) := by subst h; exact call_len_seq
theorem ksl_tup (h : X.K = K := by rfl) : SlR X (rSlT K) := by subst h; exact sl_tup
theorem ksl_list (h : X.K = K := by rfl) : SlR X (rSlL K) := by subst h; exact sl_list
theorem keqD (hu : X.A.units + 64 < cLine) (h : X.K = K := by rfl) : OpR X (compareOp .Eq) (rEqD K) := by subst h; exact op_eqD hu
theorem kneD (hu : X.A.units + 64 < cLine) (h : X.K = K := by rfl) : OpR X (compareOp .NotEq) (rNeD K) := by subst h; exact op_neD hu
theorem kisi (h : X.K = K := by rfl) : CallR X (.builtin "isinstance") (rIsi K) := by subst h; exact call_isi
theorem kall (hc : X.calm = true := by rfl) (h : X.K = K := by rfl) : CallR X (.builtin "all") (rAll K) := by subst h; exact cr_all hc
theorem ksum (hc : X.calm = true := by rfl) (h : X.K = K := by rfl) : CallR X (.builtin "sum") (rSum K) := by subst h; exact cr_sum hc
theorem kmax (hc : X.calm = true := by rfl) (h : X.K = K := by rfl) : CallR X (.builtin "max") (rMax K) := by subst h; exact cr_max hc
theorem kmin (hc : X.calm = true := by rfl) (h : X.K = K := by rfl) : CallR X (.builtin "min") (rMin K) := by subst h; exact cr_min hc
theorem kin (h : X.K = K := by rfl) : OpR X (compareOp .In) (rIn K false) := by subst h; exact op_in_seq
theorem knotIn (h : X.K = K := by rfl) : OpR X (compareOp .NotIn) (rIn K true) := by subst h; exact op_notIn_seq
theorem kcatT (h : X.K = K := by rfl) : OpR X (binaryOp .Add) (rCatT K) := by subst h; exact op_catT
theorem klist_of (h : X.K = K := by rfl) : CallR X (.type "list") (nLst K) := by subst h; exact call_list_of
theorem ktuple_of (h : X.K = K := by rfl) : CallR X (.type "tuple") (nTup K) := by subst h; exact call_tuple_of
theorem kpi_list {tg l : Expr} {tl : TE} (hl : PE X l tl) (h : X.K = K := by rfl) : PI X tg l (iList K tl) := by subst h; exact pi_list hl
theorem kpi_tup {tg l : Expr} {tl : TE} (hl : PE X l tl) (h : X.K = K := by rfl) : PI X tg l (iTup K tl) := by subst h; exact pi_tup hl
theorem kpg_tup {es : List Expr} {k : Nat} {t : TGs} {n : Nat} {pos : Pos} (h : PGs X es t) (hc : X.calm = true := by rfl) (hn : (assignEach es X.env).length = n := by rfl) (hst : (assignEach es X.env).findIdx? (·.1) = none := by rfl) (hK : X.K = K := by rfl) :
    PG X (.Tuple es k pos) (gTup K n t) := by subst hK; exact pg_tup hc h hn hst
end

theorem iteD {c A B : Prop} [Decidable c] (e : decide c = true) (h : A) : if decide c = true then A else B := by rw [e]; exact iteT h
theorem iteDF {c A B : Prop} [Decidable c] (e : decide c = false) (h : B) : if decide c = true then A else B := by rw [e]; exact iteF h
theorem iteND {c A B : Prop} [Decidable c] (e : decide c = true) (h : B) : if (!decide c) = true then A else B := by rw [e]; exact iteF h
theorem iteNDF {c A B : Prop} [Decidable c] (e : decide c = false) (h : A) : if (!decide c) = true then A else B := by rw [e]; exact iteT h
theorem ifNB {c : Bool} {A B : Prop} (h1 : c = false → A) (h2 : c = true → B) : if (!c) = true then A else B := by
  cases c
  · exact iteT (h1 rfl)
  · exact iteF (h2 rfl)
theorem iteNF {A B : Prop} (h : B) : if (!true) = true then A else B := iteF h
theorem iteNT {A B : Prop} (h : A) : if (!false) = true then A else B := iteT h
theorem qint {Q : VK} {i j : Int} {H : Hp} (e : i = j) (h : Q (.int j) H) : Q (.int i) H := e ▸ h
theorem qbl {Q : VK} {i j : Bool} {H : Hp} (e : i = j) (h : Q (.bl j) H) : Q (.bl i) H := e ▸ h
theorem scE1 : decide (V.str "scale" = V.str "scale") = true := by decide +kernel
theorem scE2 : decide (V.str "even" = V.str "scale") = false := by decide +kernel
theorem scE3 : decide (V.str "scale" = V.str "even") = false := by decide +kernel
theorem scE4 : decide (V.str "even" = V.str "even") = true := by decide +kernel
/-! ### isinstance -/
def tyD : PyData → String
  | .none => "NoneType" | .bool _ => "bool" | .int _ => "int" | .str _ => "str" | .list _ => "list" | .tuple _ => "tuple" | .dict _ => "dict"
theorem Dp.ty {K : PySem.W.Frag} {H : Hp} {v : V} {d : PyData} (h : Dp K H v d) : TyX K H v (.type (tyD d)) := by
  cases h with
  | non => exact .base .non
  | bl b => exact .base (.bl b)
  | int i => exact .base (.int i)
  | str x => exact .base (.str x)
  | lst h a =>
    rcases h with (h | ⟨o, h⟩) | ⟨o, its, n, h, c, _⟩
    · exact .base (.lst h)
    · exact .base (.frz h)
    · exact .kList h c
  | tup h a =>
    rcases h with (h | ⟨o, h⟩) | ⟨o, its, n, h, c, _⟩
    · exact .base (.tup h)
    · exact .fTuple h
    · exact .kTuple h c
section
variable {K : PySem.W.Frag} {H : Hp} {Q : VK}
theorem r_isi {v : V} {d : PyData} {T : String} {b : Bool} (h : Dp K H v d) (e : kitB (tyD d) T = some b) (q : Q (.bl b) H) : rIsi K [v, .ty T] H Q :=
  ⟨v, .ty T, _, _, b, rfl, .ty T, Dp.ty h, kit_ty e, q⟩
theorem r_eqD {x y : V} {d e : PyData} (hd : Dp K H x d) (he : Dp K H y e) (sd : SeqAt.shaped d = true) (se : SeqAt.shaped e = true) (q : Q (.bl (PyData.eqv d e)) H) : rEqD K x y H Q := ⟨d, e, hd, he, sd, se, q⟩
theorem r_neD {x y : V} {d e : PyData} (hd : Dp K H x d) (he : Dp K H y e) (sd : SeqAt.shaped d = true) (se : SeqAt.shaped e = true) (q : Q (.bl (!PyData.eqv d e)) H) : rNeD K x y H Q := ⟨d, e, hd, he, sd, se, q⟩
theorem r_all {a : Addr} {bs : List Bool} (h : SqL K H a (bs.map V.bl)) (q : Q (.bl (bs.all id)) H) : rAll K [.ref a] H Q := ⟨a, bs, rfl, h, q⟩
theorem r_sum {a : Addr} {ns : List Int} (h : SqL K H a (ns.map V.int)) (q : Q (.int ns.sum) H) : rSum K [.ref a] H Q := ⟨a, ns, rfl, h, q⟩
end

section
variable {K : PySem.W.Frag} {H : Hp} {Q : VK}
theorem r_isiT {v : V} {d : PyData} {T : String} (h : Dp K H v d) (e : kitB (tyD d) T = some true) (q : Q (.bl true) H) : rIsi K [v, .ty T] H Q := r_isi h e q
theorem r_isiF {v : V} {d : PyData} {T : String} (h : Dp K H v d) (e : kitB (tyD d) T = some false) (q : Q (.bl false) H) : rIsi K [v, .ty T] H Q := r_isi h e q
end
theorem DpAll.len {K : PySem.W.Frag} {H : Hp} : ∀ {vs : List V} {ds : List PyData}, DpAll K H vs ds → vs.length = ds.length
  | _, _, .nil => rfl
  | _, _, .cons _ t => by simp [DpAll.len t]
theorem DpAll.get {K : PySem.W.Frag} {H : Hp} : ∀ {vs : List V} {ds : List PyData} {i : Nat} {v : V}, DpAll K H vs ds → vs[i]? = some v → ∃ d, ds[i]? = some d ∧ Dp K H v d
  | _, _, _, _, .nil, e => by simp at e
  | _, _, 0, _, .cons r _, e => by simp at e; subst e; exact ⟨_, rfl, r⟩
  | _, _, i + 1, x, .cons _ t, e => by
    obtain ⟨u, h1, h2⟩ := DpAll.get (i := i) (v := x) t (by simpa using e)
    exact ⟨u, by simpa using h1, h2⟩
/-! ### what a step, a pipeline is, of any data -/
def isIntD : PyData → Int → Int → Bool
  | .int i, lo, hi => decide (lo ≤ i) && decide (i ≤ hi)
  | _, _, _ => false
def isStepD : PyData → Bool
  | .tuple (.str t :: r) => if t = "even" then (match r with | [a] => isIntD a 1 60 | _ => false) else
      if t = "scale" then (match r with | [a, b, c] => isIntD a 1 120 && isIntD b 1 120 && isIntD c (-1000000000) 1000000000 | _ => false) else false
  | _ => false
theorem kB_NoneType_int : kitB "NoneType" "int" = some false := by decide +kernel
theorem kB_NoneType_bool : kitB "NoneType" "bool" = some false := by decide +kernel
theorem kB_NoneType_str : kitB "NoneType" "str" = some false := by decide +kernel
theorem kB_NoneType_tuple : kitB "NoneType" "tuple" = some false := by decide +kernel
theorem kB_NoneType_list : kitB "NoneType" "list" = some false := by decide +kernel
theorem kB_bool_int : kitB "bool" "int" = some true := by decide +kernel
theorem kB_bool_bool : kitB "bool" "bool" = some true := by decide +kernel
theorem kB_bool_str : kitB "bool" "str" = some false := by decide +kernel
theorem kB_bool_tuple : kitB "bool" "tuple" = some false := by decide +kernel
theorem kB_bool_list : kitB "bool" "list" = some false := by decide +kernel
theorem kB_int_int : kitB "int" "int" = some true := by decide +kernel
theorem kB_int_bool : kitB "int" "bool" = some false := by decide +kernel
theorem kB_int_str : kitB "int" "str" = some false := by decide +kernel
theorem kB_int_tuple : kitB "int" "tuple" = some false := by decide +kernel
theorem kB_int_list : kitB "int" "list" = some false := by decide +kernel
theorem kB_str_int : kitB "str" "int" = some false := by decide +kernel
theorem kB_str_bool : kitB "str" "bool" = some false := by decide +kernel
theorem kB_str_str : kitB "str" "str" = some true := by decide +kernel
theorem kB_str_tuple : kitB "str" "tuple" = some false := by decide +kernel
theorem kB_str_list : kitB "str" "list" = some false := by decide +kernel
theorem kB_list_int : kitB "list" "int" = some false := by decide +kernel
theorem kB_list_bool : kitB "list" "bool" = some false := by decide +kernel
theorem kB_list_str : kitB "list" "str" = some false := by decide +kernel
theorem kB_list_tuple : kitB "list" "tuple" = some false := by decide +kernel
theorem kB_list_list : kitB "list" "list" = some true := by decide +kernel
theorem kB_tuple_int : kitB "tuple" "int" = some false := by decide +kernel
theorem kB_tuple_bool : kitB "tuple" "bool" = some false := by decide +kernel
theorem kB_tuple_str : kitB "tuple" "str" = some false := by decide +kernel
theorem kB_tuple_tuple : kitB "tuple" "tuple" = some true := by decide +kernel
theorem kB_tuple_list : kitB "tuple" "list" = some false := by decide +kernel
theorem r_eqNil1 {K : PySem.W.Frag} {H : Hp} {Q : VK} {a p : Addr} {d : PyData} {ds : List PyData} (h : Dp K H (.ref a) (.tuple (d :: ds))) (h0 : SqT K H p []) (s : SeqAt.shaped (.tuple (d :: ds)) = true) (q : Q (.bl false) H) : rEqD K (.ref a) (.ref p) H Q :=
  r_eqD h (Dp.tup h0 .nil) s rfl q
theorem r_eqNil0 {K : PySem.W.Frag} {H : Hp} {Q : VK} {a p : Addr} (h : Dp K H (.ref a) (.tuple [])) (h0 : SqT K H p []) (q : Q (.bl true) H) : rEqD K (.ref a) (.ref p) H Q :=
  r_eqD h (Dp.tup h0 .nil) rfl rfl q
theorem r_eqNil {K : PySem.W.Frag} {H : Hp} {Q : VK} {a p : Addr} {ds : List PyData} (h : Dp K H (.ref a) (.tuple ds)) (h0 : SqT K H p []) (s : SeqAt.shaped (.tuple ds) = true) (q : Q (.bl ds.isEmpty) H) : rEqD K (.ref a) (.ref p) H Q :=
  r_eqD h (Dp.tup h0 .nil) s rfl (by cases ds <;> exact q)
theorem decStr {x y : Str} (h : x = y) : decide (V.str x = V.str y) = true := by subst h; simp
theorem decStrN {x y : Str} (h : ¬ x = y) : decide (V.str x = V.str y) = false := decide_eq_false fun z => h (V.str.inj z)
theorem shaped_tup {ds : List PyData} : SeqAt.shaped (.tuple ds) = (PyData.canLayAll0 ds && decide (PyData.depthAll ds + 1 ≤ 64)) := by
  unfold SeqAt.shaped
  simp [PyData.canLay0, PyData.depth]
theorem shaped_mem : ∀ {ds : List PyData}, PyData.canLayAll0 ds = true → PyData.depthAll ds + 1 ≤ 64 → ∀ d ∈ ds, SeqAt.shaped d = true
  | [], _, _, d, h => by simp at h
  | x :: xs, h1, h2, d, h => by
    simp only [PyData.canLayAll0, Bool.and_eq_true] at h1
    simp only [PyData.depthAll] at h2
    rcases List.mem_cons.mp h with rfl | h
    · unfold SeqAt.shaped; rw [h1.1]; simp; omega
    · exact shaped_mem h1.2 (by omega) d h
theorem at0 {α : Type} {a : α} {r : List α} : atI (a :: r) 0 = some a := atI_nat (j := 0) rfl
theorem at1 {α : Type} {a b : α} {r : List α} : atI (a :: b :: r) 1 = some b := atI_nat (j := 1) rfl
theorem at2 {α : Type} {a b c : α} {r : List α} : atI (a :: b :: c :: r) 2 = some c := atI_nat (j := 2) rfl
theorem at3 {α : Type} {a b c d : α} {r : List α} : atI (a :: b :: c :: d :: r) 3 = some d := atI_nat (j := 3) rfl
theorem se_ne : ¬ (("scale" : Str) = "even") := by decide +kernel
theorem es_ne : ¬ (("even" : Str) = "scale") := by decide +kernel

/-! ### loops -/
def FLoop (J : It) (g : TG) (tb : TS) (D : Ends) (σ : St) (H : Hp) : Prop := ∃ W : Nat → Nat → St → Hp → Prop, (∃ m, W 0 m σ H) ∧ ∀ i m σ H, W i m σ H →
  (J.stop i H ∧ D.nx σ H) ∨ (J.go i H ∧ ∃ N : St → Hp → Prop, (∀ σ' H', N σ' H' → ∃ m', m' < m ∧ W (i + 1) m' σ' H') ∧ ∀ x H', J.yld i H x H' → g x σ H' fun σ2 H2 => tb { D with nx := N, ct := N, bk := D.nx } σ2 H2)
def LLoop (J : It) (g : TG) (tt : TT) (te : TE) (vs : List Nat) (σ : St) (H1 : Hp) (Q : VK) : Prop := ∀ D, H1 D = none → ∃ W : Nat → Nat → Hp → Prop, (∃ m, W 0 m (L2.upd H1 D (.lst []))) ∧ ∀ i m H, W i m H →
  (J.stop i H ∧ Q (.ref D) H) ∨ (J.go i H ∧ ∃ Nx : Hp → Prop, (∀ H', Nx H' → ∃ m', m' < m ∧ W (i + 1) m' H') ∧ ∀ x H', J.yld i H x H' → g x (wipe σ vs) H' fun σ2 H2 => wipe σ2 vs = wipe σ vs ∧ tt σ2 H2 fun b H3 =>
    if b = true then te σ2 H3 fun y H4 => ∃ acc, H4 D = some (.lst acc) ∧ acc.length < sizeLine ∧ Nx (L2.upd H4 D (.lst (acc ++ [y]))) else Nx H3)
def nItl (K : PySem.W.Frag) (x : V) (H1 : Hp) (R : It → Hp → Prop) : Prop := ∃ a, x = .ref a ∧ (∃ xs, SqL K H1 a xs) ∧ R (Itl K a) H1
def nItt (K : PySem.W.Frag) (x : V) (H1 : Hp) (R : It → Hp → Prop) : Prop := ∃ a, x = .ref a ∧ (∃ xs, SqT K H1 a xs) ∧ R (Itt K a) H1
def nRng1 (vs : List V) (H1 : Hp) (R : It → Hp → Prop) : Prop := ∃ j : Int, vs = [.int j] ∧ -(2 ^ 62) ≤ j ∧ j < 2 ^ 62 ∧ R (Itr 0 j.toNat) H1
def nRng2 (vs : List V) (H1 : Hp) (R : It → Hp → Prop) : Prop := ∃ i j : Int, vs = [.int i, .int j] ∧ (-(2 ^ 62) ≤ i ∧ i < 2 ^ 62 ∧ -(2 ^ 62) ≤ j ∧ j < 2 ^ 62) ∧ R (Itr i (j - i).toNat) H1
section
variable {K : PySem.W.Frag} {σ : St} {H : Hp} {Q : VK} {te : TE} {g : TG} {tb : TS} {D : Ends} {wi : TI} {tt : TT} {vs : List Nat} {R : It → Hp → Prop} {ta : TA}
theorem s_for (h : wi σ H fun J H1 => FLoop J g tb D σ H1) : tFor wi g tb D σ H := h
theorem s_lc (h : wi σ H fun J H1 => LLoop J g tt te vs σ H1 Q) : tLc wi g tt te vs σ H Q := h
theorem i_list (h : te σ H fun x H1 => nItl K x H1 R) : iList K te σ H R := h
theorem i_tup (h : te σ H fun x H1 => nItt K x H1 R) : iTup K te σ H R := h
theorem i_rng1 (h : ta σ H fun vs H1 => nRng1 vs H1 R) : iRng1 ta σ H R := h
theorem i_rng2 (h : ta σ H fun vs H1 => nRng2 vs H1 R) : iRng2 ta σ H R := h
theorem i_l {a : Addr} {xs : List V} (e : SqL K H a xs) (h : R (Itl K a) H) : nItl K (.ref a) H R := ⟨a, rfl, ⟨_, e⟩, h⟩
theorem i_t {a : Addr} {xs : List V} (e : SqT K H a xs) (h : R (Itt K a) H) : nItt K (.ref a) H R := ⟨a, rfl, ⟨_, e⟩, h⟩
theorem i_r1 {j : Int} (b : -4611686018427387904 ≤ j ∧ j < 4611686018427387904) (h : R (Itr 0 j.toNat) H) : nRng1 [.int j] H R := ⟨j, rfl, b.1, b.2, h⟩
theorem i_r2 {i j : Int} (b : -4611686018427387904 ≤ i ∧ i < 4611686018427387904 ∧ -4611686018427387904 ≤ j ∧ j < 4611686018427387904) (h : R (Itr i (j - i).toNat) H) : nRng2 [.int i, .int j] H R := ⟨i, j, rfl, b, h⟩
theorem fl_range {lo : Int} {n : Nat} (Pv : Nat → St → Hp → Prop) (h0 : Pv 0 σ H)
    (hs : ∀ i σ H, i < n → Pv i σ H → g (.int (lo + i)) σ H fun σ2 H2 => tb { D with nx := Pv (i + 1), ct := Pv (i + 1), bk := D.nx } σ2 H2) (hd : ∀ σ H, Pv n σ H → D.nx σ H) : FLoop (Itr lo n) g tb D σ H := for_range Pv h0 hs hd
theorem fl_list {a : Addr} {xs : List V} (Pv : Nat → St → Hp → Prop) (h0 : Pv 0 σ H) (hl : ∀ i σ H, i ≤ xs.length → Pv i σ H → SqL K H a xs)
    (hs : ∀ i x σ H, xs[i]? = some x → Pv i σ H → g x σ H fun σ2 H2 => tb { D with nx := Pv (i + 1), ct := Pv (i + 1), bk := D.nx } σ2 H2) (hd : ∀ σ H, Pv xs.length σ H → D.nx σ H) : FLoop (Itl K a) g tb D σ H := for_list Pv h0 hl hs hd
theorem fl_tup {a : Addr} {xs : List V} (Pv : Nat → St → Hp → Prop) (h0 : Pv 0 σ H) (hl : ∀ i σ H, i ≤ xs.length → Pv i σ H → SqT K H a xs)
    (hs : ∀ i x σ H, xs[i]? = some x → Pv i σ H → g x σ H fun σ2 H2 => tb { D with nx := Pv (i + 1), ct := Pv (i + 1), bk := D.nx } σ2 H2) (hd : ∀ σ H, Pv xs.length σ H → D.nx σ H) : FLoop (Itt K a) g tb D σ H := for_tup Pv h0 hl hs hd
end
/-! ### comprehensions that map: one value a place, the heap grows only -/
section
variable {K : PySem.W.Frag} {σ : St} {H : Hp} {Q : VK} {te : TE}
theorem ll_tup {α : Type} {i0 : Nat} {a : Addr} {xs : List V} {ys : List α} (f : α → V) (hS : SqT K H a xs) (hlen : xs.length = ys.length) (hsz : ys.length < 16777216)
    (hw : ∀ x, wipe ((wipe σ [i0]).set i0 (some x)) [i0] = wipe σ [i0])
    (hs : ∀ (i : Nat) (x : V) (y : α) (H' : Hp) (Q' : VK), xs[i]? = some x → ys[i]? = some y → Same H H' → (∀ H4, Same H' H4 → Q' (f y) H4) → te ((wipe σ [i0]).set i0 (some x)) H' Q')
    (hd : ∀ D H', Same H H' → H' D = some (.lst (ys.map f)) → H D = none → Q (.ref D) H') : LLoop (Itt K a) (gName i0) tYes te [i0] σ H Q := by
  refine fun D hD => lc_tup (K := K) (a := a) (xs := xs) (fun i H' => Same H H' ∧ H' D = some (.lst ((ys.take i).map f))) ⟨Same.up (Same.refl _) hD, upd_same⟩ (fun i H' _ h => SqT.same h.1 hS) (fun i x H' hx h => ?_) (fun H' h => ?_)
  · obtain ⟨h1, h2⟩ := h
    have hi : i < ys.length := by rw [← hlen]; exact (List.getElem?_eq_some_iff.mp hx).1
    refine ⟨hw x, ?_⟩
    show te _ H' _
    refine hs i x ys[i] H' _ hx (List.getElem?_eq_getElem hi) h1 fun H4 h4 => ⟨_, h4 _ _ h2, ?_, Same.upN (h1.trans h4) hD, ?_⟩
    · rw [List.length_map, List.length_take, PySem.sizeLine_eq]; omega
    · rw [upd_same, List.take_add_one, List.getElem?_eq_getElem hi, List.map_append]; rfl
  · obtain ⟨h1, h2⟩ := h
    refine hd D H' h1 ?_ hD
    rw [h2, hlen, List.take_length]
theorem ll_list {α : Type} {i0 : Nat} {a : Addr} {xs : List V} {ys : List α} (f : α → V) (hS : SqL K H a xs) (hlen : xs.length = ys.length) (hsz : ys.length < 16777216)
    (hw : ∀ x, wipe ((wipe σ [i0]).set i0 (some x)) [i0] = wipe σ [i0])
    (hs : ∀ (i : Nat) (x : V) (y : α) (H' : Hp) (Q' : VK), xs[i]? = some x → ys[i]? = some y → Same H H' → (∀ H4, Same H' H4 → Q' (f y) H4) → te ((wipe σ [i0]).set i0 (some x)) H' Q')
    (hd : ∀ D H', Same H H' → H' D = some (.lst (ys.map f)) → H D = none → Q (.ref D) H') : LLoop (Itl K a) (gName i0) tYes te [i0] σ H Q := by
  refine fun D hD => lc_list (K := K) (a := a) (xs := xs) (fun i H' => Same H H' ∧ H' D = some (.lst ((ys.take i).map f))) ⟨Same.up (Same.refl _) hD, upd_same⟩ (fun i H' _ h => SqL.same h.1 hS) (fun i x H' hx h => ?_) (fun H' h => ?_)
  · obtain ⟨h1, h2⟩ := h
    have hi : i < ys.length := by rw [← hlen]; exact (List.getElem?_eq_some_iff.mp hx).1
    refine ⟨hw x, ?_⟩
    show te _ H' _
    refine hs i x ys[i] H' _ hx (List.getElem?_eq_getElem hi) h1 fun H4 h4 => ⟨_, h4 _ _ h2, ?_, Same.upN (h1.trans h4) hD, ?_⟩
    · rw [List.length_map, List.length_take, PySem.sizeLine_eq]; omega
    · rw [upd_same, List.take_add_one, List.getElem?_eq_getElem hi, List.map_append]; rfl
  · obtain ⟨h1, h2⟩ := h
    refine hd D H' h1 ?_ hD
    rw [h2, hlen, List.take_length]
/-- over a range that is walked: f gives the i-th value -/
theorem ll_range {i0 : Nat} {lo : Int} {n : Nat} (f : Nat → V) (hsz : n < 16777216) (hw : ∀ x, wipe ((wipe σ [i0]).set i0 (some x)) [i0] = wipe σ [i0])
    (hs : ∀ (i : Nat) (H' : Hp) (Q' : VK), i < n → Same H H' → (∀ H4, Same H' H4 → Q' (f i) H4) → te ((wipe σ [i0]).set i0 (some (.int (lo + i)))) H' Q')
    (hd : ∀ D H', Same H H' → H' D = some (.lst ((List.range n).map f)) → H D = none → Q (.ref D) H') : LLoop (Itr lo n) (gName i0) tYes te [i0] σ H Q := by
  refine fun D hD => lc_range (lo := lo) (n := n) (fun i H' => Same H H' ∧ H' D = some (.lst ((List.range i).map f))) ⟨Same.up (Same.refl _) hD, upd_same⟩ (fun i H' hi h => ?_) (fun H' h => ?_)
  · obtain ⟨h1, h2⟩ := h
    refine ⟨hw _, ?_⟩
    show te _ H' _
    refine hs i H' _ hi h1 fun H4 h4 => ⟨_, h4 _ _ h2, ?_, Same.upN (h1.trans h4) hD, ?_⟩
    · rw [List.length_map, List.length_range, PySem.sizeLine_eq]; omega
    · rw [upd_same, List.range_succ, List.map_append]; rfl
  · obtain ⟨h1, h2⟩ := h
    exact hd D H' h1 h2 hD
end
theorem HAt.same {H H' : Hp} {a : Addr} {o : HO} (e : Same H H') (h : H a = some o) : H' a = some o := e _ _ h
section
variable {K : PySem.W.Frag} {H : Hp} {A : Prop}
theorem r_tyL {l : Addr} {xs : List V} (h : H l = some (.lst xs)) (q : A) : tyV K "list" (.ref l) H ∧ A := ⟨.inl ⟨rfl, _, SqL.of h⟩, q⟩
end

section
variable {H : Hp} {Q : VK} {σ : St} {K : PySem.W.Frag}
theorem r_p2 (h : Q (.int 100) H) : rI CPow (fun i j => .int (i ^ j.toNat)) (.int 10) (.int 2) H Q := ⟨10, 2, rfl, rfl, ⟨by decide, by decide, by decide⟩, h⟩
theorem r_p3 (h : Q (.int 1000) H) : rI CPow (fun i j => .int (i ^ j.toNat)) (.int 10) (.int 3) H Q := ⟨10, 3, rfl, rfl, ⟨by decide, by decide, by decide⟩, h⟩
theorem r_p4 (h : Q (.int 10000) H) : rI CPow (fun i j => .int (i ^ j.toNat)) (.int 10) (.int 4) H Q := ⟨10, 4, rfl, rfl, ⟨by decide, by decide, by decide⟩, h⟩
theorem r_p5 (h : Q (.int 100000) H) : rI CPow (fun i j => .int (i ^ j.toNat)) (.int 10) (.int 5) H Q := ⟨10, 5, rfl, rfl, ⟨by decide, by decide, by decide⟩, h⟩
theorem r_p6 (h : Q (.int 1000000) H) : rI CPow (fun i j => .int (i ^ j.toNat)) (.int 10) (.int 6) H Q := ⟨10, 6, rfl, rfl, ⟨by decide, by decide, by decide⟩, h⟩
theorem r_p7 (h : Q (.int 10000000) H) : rI CPow (fun i j => .int (i ^ j.toNat)) (.int 10) (.int 7) H Q := ⟨10, 7, rfl, rfl, ⟨by decide, by decide, by decide⟩, h⟩
theorem r_p8 (h : Q (.int 100000000) H) : rI CPow (fun i j => .int (i ^ j.toNat)) (.int 10) (.int 8) H Q := ⟨10, 8, rfl, rfl, ⟨by decide, by decide, by decide⟩, h⟩
theorem r_p9 (h : Q (.int 1000000000) H) : rI CPow (fun i j => .int (i ^ j.toNat)) (.int 10) (.int 9) H Q := ⟨10, 9, rfl, rfl, ⟨by decide, by decide, by decide⟩, h⟩
theorem r_p10 (h : Q (.int 10000000000) H) : rI CPow (fun i j => .int (i ^ j.toNat)) (.int 10) (.int 10) H Q := ⟨10, 10, rfl, rfl, ⟨by decide, by decide, by decide⟩, h⟩
theorem r_p12 (h : Q (.int 1000000000000) H) : rI CPow (fun i j => .int (i ^ j.toNat)) (.int 10) (.int 12) H Q := ⟨10, 12, rfl, rfl, ⟨by decide, by decide, by decide⟩, h⟩
theorem r_p15 (h : Q (.int 1000000000000000) H) : rI CPow (fun i j => .int (i ^ j.toNat)) (.int 10) (.int 15) H Q := ⟨10, 15, rfl, rfl, ⟨by decide, by decide, by decide⟩, h⟩
theorem r_p16 (h : Q (.int 10000000000000000) H) : rI CPow (fun i j => .int (i ^ j.toNat)) (.int 10) (.int 16) H Q := ⟨10, 16, rfl, rfl, ⟨by decide, by decide, by decide⟩, h⟩
theorem r_p17 (h : Q (.int 100000000000000000) H) : rI CPow (fun i j => .int (i ^ j.toNat)) (.int 10) (.int 17) H Q := ⟨10, 17, rfl, rfl, ⟨by decide, by decide, by decide⟩, h⟩
theorem r_p18 (h : Q (.int 1000000000000000000) H) : rI CPow (fun i j => .int (i ^ j.toNat)) (.int 10) (.int 18) H Q := ⟨10, 18, rfl, rfl, ⟨by decide, by decide, by decide⟩, h⟩
theorem cmul_b {i : Int} {b : Bool} : CMul i (if b = true then 1 else 0) := .inr (by cases b <;> decide)
theorem s_sub {to ti : TE} {t : TSet} {v : V} {Q : St → Hp → Prop} (h : to σ H fun o H1 => ti σ H1 fun i H2 => t o i v H2 fun H3 => Q σ H3) : gSub to ti t v σ H Q := h
theorem r_setL {p : Addr} {xs : List V} {k : Int} {j : Nat} {v : V} {Q : Hp → Prop} (h : H p = some (.lst xs)) (e : ixN xs.length k = some j) (q : Q (L2.upd H p (.lst (xs.set j v)))) : rSetL (.ref p) (.int k) v H Q := ⟨p, xs, k, j, rfl, rfl, h, e, q⟩
theorem s_while {c : TT} {tb : TS} {D : Ends} (Pv : Nat → St → Hp → Prop) (n0 : Nat) (h0 : Pv n0 σ H)
    (hs : ∀ n σ H, Pv n σ H → c σ H fun b H1 => if b = true then ∃ N : St → Hp → Prop, (∀ σ' H', N σ' H' → ∃ m', m' < n ∧ Pv m' σ' H') ∧ tb { D with nx := N, ct := N, bk := D.nx } σ H1 else D.nx σ H1) : tWhile c tb D σ H :=
  ⟨Pv, ⟨n0, h0⟩, hs⟩
end
end My

namespace My
open PySem L2
/-! ### steps and pipelines as data -/
inductive Step where
  | sc (k m c : Int)
  | ev (m : Int)
  deriving DecidableEq
def Step.ok : Step → Prop
  | .sc k m c => (1 ≤ k ∧ k ≤ 120) ∧ (1 ≤ m ∧ m ≤ 120) ∧ (-1000000000 ≤ c ∧ c ≤ 1000000000)
  | .ev m => 1 ≤ m ∧ m ≤ 60
def Step.per : Step → Int
  | .sc _ m _ => m
  | .ev m => if m % 2 = 0 then 2 * m else m
def Step.rise : Step → Int
  | .sc k _ _ => k
  | .ev m => if m % 2 = 0 then 2 else 1
/-- what is needed for the value -/
def Step.pos : Step → Prop
  | .sc k m _ => (1 ≤ k ∧ k ≤ 120) ∧ (1 ≤ m ∧ m ≤ 120)
  | .ev m => 1 ≤ m ∧ m ≤ 144
def Step.val : Step → Int → Int
  | .sc k m c, x => (k * x + c) / m
  | .ev m, x => if 2 * (x % m) = m then x / m + x / m % 2 else x / m + (if m < 2 * (x % m) then 1 else 0)
abbrev Pipe := List Step
def Pipe.val (p : Pipe) (x : Int) : Int := p.foldl (fun x s => s.val x) x
def Pipe.pos (p : Pipe) : Prop := ∀ s ∈ p, s.pos
theorem Step.ok.pos {s : Step} (h : s.ok) : s.pos := by
  cases s with
  | sc k m c => exact ⟨h.1, h.2.1⟩
  | ev m => exact ⟨h.1, Int.le_trans h.2 (by decide)⟩
def Step.cells : Step → List V
  | .sc k m c => [.str "scale", .int k, .int m, .int c]
  | .ev m => [.str "even", .int m]
def StepAt (K : PySem.W.Frag) (H : Hp) (v : V) (s : Step) : Prop := ∃ a, v = .ref a ∧ SqT K H a s.cells
def PipeAt (K : PySem.W.Frag) (H : Hp) (v : V) (p : Pipe) : Prop := ∃ a xs, v = .ref a ∧ SqT K H a xs ∧ Paired (StepAt K H) xs p
theorem StepAt.same {K : PySem.W.Frag} {H H' : Hp} {v : V} {s : Step} (e : Same H H') (h : StepAt K H v s) : StepAt K H' v s := by
  obtain ⟨a, q, h⟩ := h
  exact ⟨a, q, SqT.same e h⟩
theorem PipeAt.same {K : PySem.W.Frag} {H H' : Hp} {v : V} {p : Pipe} (e : Same H H') (h : PipeAt K H v p) : PipeAt K H' v p := by
  obtain ⟨a, xs, q, h, r⟩ := h
  exact ⟨a, xs, q, SqT.same e h, Paired.mapP r fun _ _ => StepAt.same e⟩
theorem StepAt.updL {K : PySem.W.Frag} {H : Hp} {v : V} {s : Step} {l : Addr} {ys : List V} {o : HO} (h : StepAt K H v s) (hl : H l = some (.lst ys)) : StepAt K (L2.upd H l o) v s := by
  obtain ⟨a, q, h⟩ := h
  exact ⟨a, q, SqT.updL h hl⟩
theorem PipeAt.updL {K : PySem.W.Frag} {H : Hp} {v : V} {p : Pipe} {l : Addr} {ys : List V} {o : HO} (h : PipeAt K H v p) (hl : H l = some (.lst ys)) : PipeAt K (L2.upd H l o) v p := by
  obtain ⟨a, xs, q, h, r⟩ := h
  exact ⟨a, xs, q, SqT.updL h hl, Paired.mapP r fun _ _ z => z.updL hl⟩
theorem Paired.get {α β : Type} {F : α → β → Prop} : ∀ {xs : List α} {ys : List β} {i : Nat} {x : α}, Paired F xs ys → xs[i]? = some x → ∃ y, ys[i]? = some y ∧ F x y
  | _, _, _, _, .nil, e => by simp at e
  | _, _, 0, _, .cons r _, e => by simp at e; subst e; exact ⟨_, rfl, r⟩
  | _, _, i + 1, x, .cons _ t, e => by
    obtain ⟨u, h1, h2⟩ := Paired.get (i := i) (x := x) t (by simpa using e)
    exact ⟨u, by simpa using h1, h2⟩
theorem Paired.len {α β : Type} {F : α → β → Prop} : ∀ {xs : List α} {ys : List β}, Paired F xs ys → xs.length = ys.length
  | _, _, .nil => rfl
  | _, _, .cons _ t => by simp [Paired.len t]
theorem Pipe.val_nil (x : Int) : Pipe.val [] x = x := rfl
theorem Pipe.val_cons (s : Step) (p : Pipe) (x : Int) : Pipe.val (s :: p) x = Pipe.val p (s.val x) := rfl
theorem Pipe.val_append (p q : Pipe) (x : Int) : Pipe.val (p ++ q) x = Pipe.val q (Pipe.val p x) := by simp [Pipe.val, List.foldl_append]
theorem take_succ_of {α : Type} {l : List α} {i : Nat} {x : α} (h : l[i]? = some x) : l.take (i + 1) = l.take i ++ [x] := by
  rw [List.take_add_one, h]; rfl
theorem Pipe.val_take {p : Pipe} {i : Nat} {s : Step} (h : p[i]? = some s) (x : Int) : Pipe.val (p.take (i + 1)) x = s.val (Pipe.val (p.take i) x) := by
  rw [take_succ_of h, Pipe.val_append]; rfl
/-- tuples stay -/
def TKeep (K : PySem.W.Frag) (H H' : Hp) : Prop := ∀ a xs, SqT K H a xs → SqT K H' a xs
theorem TKeep.refl {K : PySem.W.Frag} {H : Hp} : TKeep K H H := fun _ _ h => h
theorem TKeep.trans {K : PySem.W.Frag} {H H1 H2 : Hp} (a : TKeep K H H1) (b : TKeep K H1 H2) : TKeep K H H2 := fun c xs h => b c xs (a c xs h)
theorem TKeep.ofSame {K : PySem.W.Frag} {H H' : Hp} (a : Same H H') : TKeep K H H' := fun _ _ h => SqT.same a h
theorem TKeep.up {K : PySem.W.Frag} {H H1 : Hp} {p : Addr} {o : HO} (a : TKeep K H H1) (n : H1 p = none) : TKeep K H (L2.upd H1 p o) := a.trans (.ofSame (Same.up (Same.refl _) n))
theorem TKeep.upL {K : PySem.W.Frag} {H H1 : Hp} {p : Addr} {o : HO} {ys : List V} (a : TKeep K H H1) (n : H1 p = some (.lst ys)) : TKeep K H (L2.upd H1 p o) := a.trans fun _ _ h => SqT.updL h n
theorem StepAt.keep {K : PySem.W.Frag} {H H' : Hp} {v : V} {s : Step} (e : TKeep K H H') (h : StepAt K H v s) : StepAt K H' v s := by
  obtain ⟨a, q, h⟩ := h
  exact ⟨a, q, e _ _ h⟩
theorem PipeAt.keep {K : PySem.W.Frag} {H H' : Hp} {v : V} {p : Pipe} (e : TKeep K H H') (h : PipeAt K H v p) : PipeAt K H' v p := by
  obtain ⟨a, xs, q, h, r⟩ := h
  exact ⟨a, xs, q, e _ _ h, Paired.mapP r fun _ _ => StepAt.keep e⟩
theorem ev_ne_sc : decide (V.str "even" = V.str "scale") = false := by decide +kernel
theorem sc_ne_ev : decide (V.str "scale" = V.str "even") = false := by decide +kernel
theorem sc_eq : decide (V.str "scale" = V.str "scale") = true := by decide +kernel
theorem ev_eq : decide (V.str "even" = V.str "even") = true := by decide +kernel

/-! ### loops over pipelines -/
section
variable {K : PySem.W.Frag} {a : Addr} {xs : List V} {g : TG} {tb : TS} {D : Ends} {σ : St} {H H0 : Hp}
theorem fl_P {p : Pipe} (hS : SqT K H0 a xs) (hx : Paired (StepAt K H0) xs p) (Pv : Nat → St → Hp → Prop) (h0 : Pv 0 σ H) (hk : ∀ i σ H, Pv i σ H → TKeep K H0 H)
    (hs : ∀ i s v σ H, p[i]? = some s → s ∈ p → StepAt K H v s → Pv i σ H → g v σ H fun σ2 H2 => tb { D with nx := Pv (i + 1), ct := Pv (i + 1), bk := D.nx } σ2 H2) (hd : ∀ σ H, Pv p.length σ H → D.nx σ H) : FLoop (Itt K a) g tb D σ H := by
  refine fl_tup (xs := xs) Pv h0 (fun i σ H _ p => hk i σ H p _ _ hS) (fun i x σ H ex p => ?_) (by rw [Paired.len hx]; exact hd)
  obtain ⟨s, es, r⟩ := Paired.get hx ex
  exact hs i s x σ H es (List.mem_of_getElem? es) (r.keep (hk i σ H p)) p
end

/-! ### steps as data -/
def Step.data : Step → PyData
  | .sc k m c => .tuple [.str "scale", .int k, .int m, .int c]
  | .ev m => .tuple [.str "even", .int m]
def pipeD (p : Pipe) : PyData := .tuple (p.map Step.data)
def perD : PyData → Int
  | .tuple [.str _, .int _, .int m, .int _] => m
  | .tuple [.str _, .int m] => if m % 2 = 0 then 2 * m else m
  | _ => 1
def isPipeD : PyData → Bool
  | .tuple ds => decide (ds.length ≤ 6) && ds.all isStepD && decide ((ds.map perD).foldl (fun a b => a * b) 1 ≤ 120)
  | _ => false
def Pipe.prod (p : Pipe) : Int := (p.map Step.per).foldl (fun a b => a * b) 1
def Pipe.ok (p : Pipe) : Prop := p.length ≤ 6 ∧ (∀ s ∈ p, s.ok) ∧ p.prod ≤ 120
theorem Pipe.ok.pos {p : Pipe} (h : p.ok) : p.pos := fun s hs => (h.2.1 s hs).pos
theorem isIntD_elim {d : PyData} {lo hi : Int} (h : isIntD d lo hi = true) : ∃ i, d = .int i ∧ lo ≤ i ∧ i ≤ hi := by
  cases d with
  | int i => simp [isIntD] at h; exact ⟨i, rfl, h⟩
  | _ => simp [isIntD] at h
theorem isStepD_elim {d : PyData} (h : isStepD d = true) : ∃ s : Step, s.ok ∧ d = s.data := by
  unfold isStepD at h
  split at h
  · rename_i t r
    split at h
    · rename_i te
      subst te
      split at h
      · obtain ⟨i, rfl, h1, h2⟩ := isIntD_elim h
        exact ⟨.ev i, ⟨h1, h2⟩, rfl⟩
      · cases h
    · split at h
      · rename_i ts
        subst ts
        split at h
        · simp only [Bool.and_eq_true] at h
          obtain ⟨⟨h1, h2⟩, h3⟩ := h
          obtain ⟨i, rfl, g1⟩ := isIntD_elim h1
          obtain ⟨j, rfl, g2⟩ := isIntD_elim h2
          obtain ⟨l, rfl, g3⟩ := isIntD_elim h3
          exact ⟨.sc i j l, ⟨g1, g2, g3⟩, rfl⟩
        · cases h
      · cases h
  · cases h
theorem isStepD_data {s : Step} : isStepD s.data = true ↔ s.ok := by
  cases s with
  | sc k m c => simp [Step.data, isStepD, se_ne, isIntD, Step.ok, and_assoc]
  | ev m => simp [Step.data, isStepD, isIntD, Step.ok]
theorem perD_data (s : Step) : perD s.data = s.per := by cases s <;> rfl
theorem StepAt.dp {K : PySem.W.Frag} {H : Hp} {v : V} {s : Step} (h : StepAt K H v s) : Dp K H v s.data := by
  obtain ⟨a, rfl, h⟩ := h
  cases s with
  | sc k m c => exact .tup h (.cons (.str _) (.cons (.int _) (.cons (.int _) (.cons (.int _) .nil))))
  | ev m => exact .tup h (.cons (.str _) (.cons (.int _) .nil))
theorem StepAt.ofDp {K : PySem.W.Frag} {H : Hp} {v : V} {s : Step} (h : Dp K H v s.data) : StepAt K H v s := by
  cases s with
  | sc k m c =>
    cases h with
    | tup h a =>
      cases a with | cons h1 a => cases a with | cons h2 a => cases a with | cons h3 a => cases a with | cons h4 a =>
        cases a; cases h1; cases h2; cases h3; cases h4
        exact ⟨_, rfl, h⟩
  | ev m =>
    cases h with
    | tup h a =>
      cases a with | cons h1 a => cases a with | cons h2 a =>
        cases a; cases h1; cases h2
        exact ⟨_, rfl, h⟩
theorem dpAll_of {K : PySem.W.Frag} {H : Hp} : ∀ {xs : List V} {p : Pipe}, Paired (StepAt K H) xs p → DpAll K H xs (p.map Step.data)
  | _, _, .nil => .nil
  | _, _, .cons r t => .cons r.dp (dpAll_of t)
theorem ofDpAll {K : PySem.W.Frag} {H : Hp} : ∀ {p : Pipe} {xs : List V}, DpAll K H xs (p.map Step.data) → Paired (StepAt K H) xs p
  | [], _, .nil => .nil
  | _ :: _, _, .cons r t => .cons (StepAt.ofDp r) (ofDpAll t)
theorem PipeAt.dp {K : PySem.W.Frag} {H : Hp} {v : V} {p : Pipe} (h : PipeAt K H v p) : Dp K H v (pipeD p) := by
  obtain ⟨a, xs, rfl, h, r⟩ := h
  exact .tup h (dpAll_of r)
theorem PipeAt.ofDp {K : PySem.W.Frag} {H : Hp} {v : V} {p : Pipe} (h : Dp K H v (pipeD p)) : PipeAt K H v p := by
  cases h with
  | tup h a => exact ⟨_, _, rfl, h, ofDpAll a⟩
theorem steps_of : ∀ {ds : List PyData}, ds.all isStepD = true → ∃ p : Pipe, ds = p.map Step.data ∧ ∀ s ∈ p, s.ok
  | [], _ => ⟨[], rfl, by simp⟩
  | d :: ds, h => by
    simp only [List.all_cons, Bool.and_eq_true] at h
    obtain ⟨s, hs, rfl⟩ := isStepD_elim h.1
    obtain ⟨p, rfl, hp⟩ := steps_of h.2
    refine ⟨s :: p, rfl, fun t ht => ?_⟩
    rcases List.mem_cons.mp ht with rfl | ht
    · exact hs
    · exact hp t ht
theorem isPipeD_pipe {p : Pipe} : isPipeD (pipeD p) = true ↔ p.ok := by
  unfold isPipeD pipeD Pipe.ok Pipe.prod
  simp only [Bool.and_eq_true, decide_eq_true_eq, List.length_map, List.all_eq_true, List.map_map]
  have e : (perD ∘ Step.data) = Step.per := funext perD_data
  rw [e]
  constructor
  · rintro ⟨⟨h1, h2⟩, h3⟩
    exact ⟨h1, fun s hs => isStepD_data.mp (h2 _ (List.mem_map_of_mem hs)), h3⟩
  · rintro ⟨h1, h2, h3⟩
    refine ⟨⟨h1, fun d hd => ?_⟩, h3⟩
    obtain ⟨s, hs, rfl⟩ := List.mem_map.mp hd
    exact isStepD_data.mpr (h2 s hs)
theorem strOk_sc : PyData.canLay0 (.str "scale") = true := by decide +kernel
theorem strOk_ev : PyData.canLay0 (.str "even") = true := by decide +kernel
theorem step_lay (s : Step) : s.data.canLay0 = true ∧ s.data.depth ≤ 1 := by
  cases s with
  | sc k m c => simp [Step.data, PyData.canLay0, PyData.canLayAll0, PyData.depth, PyData.depthAll]; exact strOk_sc
  | ev m => simp [Step.data, PyData.canLay0, PyData.canLayAll0, PyData.depth, PyData.depthAll]; exact strOk_ev
theorem steps_lay : ∀ p : Pipe, PyData.canLayAll0 (p.map Step.data) = true ∧ PyData.depthAll (p.map Step.data) ≤ 1
  | [] => ⟨rfl, Nat.zero_le _⟩
  | s :: p => by
    have h1 := step_lay s
    have h2 := steps_lay p
    simp only [List.map_cons, PyData.canLayAll0, PyData.depthAll, h1.1, h2.1, Bool.and_self, true_and]
    omega
theorem shaped_step (s : Step) : SeqAt.shaped s.data = true := by
  have h := step_lay s
  unfold SeqAt.shaped
  rw [h.1]; simp; omega
theorem shaped_pipe (p : Pipe) : SeqAt.shaped (pipeD p) = true := by
  have h := steps_lay p
  unfold pipeD
  rw [shaped_tup, h.1]; simp; omega
theorem Step.per_pos {s : Step} (h : s.ok) : 1 ≤ s.per ∧ s.per ≤ 120 := by
  cases s with
  | sc k m c => exact h.2.1
  | ev m =>
    have h1 := h.1; have h2 := h.2
    unfold Step.per
    constructor <;> (dsimp only; split <;> omega)
theorem prod_take {p : Pipe} {i : Nat} {s : Step} (h : p[i]? = some s) : Pipe.prod (p.take (i + 1)) = Pipe.prod (p.take i) * s.per := by
  rw [take_succ_of h]; unfold Pipe.prod; simp [List.foldl_append]
end My
namespace My
open PySem L2
def Pipe.trace (p : Pipe) (x : Int) : List Int := match p with
  | [] => []
  | s :: p => s.val x :: Pipe.trace p (s.val x)
theorem Pipe.trace_length : ∀ (p : Pipe) (x : Int), (p.trace x).length = p.length
  | [], _ => rfl
  | s :: p, x => by simp [Pipe.trace, Pipe.trace_length p]
theorem Pipe.trace_append : ∀ (p q : Pipe) (x : Int), Pipe.trace (p ++ q) x = Pipe.trace p x ++ Pipe.trace q (Pipe.val p x)
  | [], _, _ => rfl
  | s :: p, q, x => by
    show s.val x :: Pipe.trace (p ++ q) (s.val x) = s.val x :: (Pipe.trace p (s.val x) ++ Pipe.trace q (Pipe.val p (s.val x)))
    rw [Pipe.trace_append p q]
theorem Pipe.trace_take {p : Pipe} {i : Nat} {s : Step} (h : p[i]? = some s) (x : Int) : Pipe.trace (p.take (i + 1)) x = Pipe.trace (p.take i) x ++ [s.val (Pipe.val (p.take i) x)] := by
  rw [take_succ_of h, Pipe.trace_append]; rfl
end My
namespace My
open PySem L2
/-! ### facts, a hop back -/
section
variable {K : PySem.W.Frag} {H H' : Hp} {a l p b d : Addr} {o u : HO} {xs ys : List V} {v : V} {s : Step} {q : Pipe} {dd : PyData}
theorem SqT.hs (e : Same H H') (h : SqT K H a xs) : SqT K H' a xs := SqT.same e h
theorem SqT.hu (n : H p = none) (h : SqT K H a xs) : SqT K (L2.upd H p o) a xs := SqT.same (Same.up (Same.refl _) n) h
theorem SqT.hl (n : H p = some (.lst ys)) (h : SqT K H a xs) : SqT K (L2.upd H p o) a xs := SqT.updL h n
theorem SqL.hs (e : Same H H') (h : SqL K H a xs) : SqL K H' a xs := SqL.same e h
theorem SqL.hu (n : H p = none) (h : SqL K H a xs) : SqL K (L2.upd H p o) a xs := SqL.same (Same.up (Same.refl _) n) h
theorem StepAt.hs (e : Same H H') (h : StepAt K H v s) : StepAt K H' v s := StepAt.same e h
theorem StepAt.hu (n : H p = none) (h : StepAt K H v s) : StepAt K (L2.upd H p o) v s := StepAt.same (Same.up (Same.refl _) n) h
theorem StepAt.hl (n : H p = some (.lst ys)) (h : StepAt K H v s) : StepAt K (L2.upd H p o) v s := StepAt.updL h n
theorem PipeAt.hs (e : Same H H') (h : PipeAt K H v q) : PipeAt K H' v q := PipeAt.same e h
theorem PipeAt.hu (n : H p = none) (h : PipeAt K H v q) : PipeAt K (L2.upd H p o) v q := PipeAt.same (Same.up (Same.refl _) n) h
theorem PipeAt.hl (n : H p = some (.lst ys)) (h : PipeAt K H v q) : PipeAt K (L2.upd H p o) v q := PipeAt.updL h n
theorem Dp.hs (e : Same H H') (h : Dp K H v dd) : Dp K H' v dd := Dp.same e h
theorem Dp.hu (n : H p = none) (h : Dp K H v dd) : Dp K (L2.upd H p o) v dd := Dp.same (Same.up (Same.refl _) n) h
theorem HAt.hs (e : Same H H') (h : H a = some u) : H' a = some u := e _ _ h
theorem HAt.hu (n : H p = none) (h : H a = some u) : L2.upd H p o a = some u := by rw [upd_ne (ne_of_none h n)]; exact h
theorem HAt.hn (n : a ≠ p) (h : H a = some u) : L2.upd H p o a = some u := by rw [upd_ne n]; exact h

/-! ### the bag of draws -/
structure BagAt (H : Hp) (b d : Addr) : Prop where
  ne : d ≠ b
  ex : ∃ (n : Int) (ds : List Int), H b = some (.lst [.ref d, .int n]) ∧ H d = some (.lst (ds.map V.int)) ∧ ds.length = 400 ∧ (∀ z ∈ ds, 0 ≤ z) ∧ 0 ≤ n
structure Bs (K : PySem.W.Frag) (b d : Addr) (H H' : Hp) : Prop where
  off : ∀ a o, a ≠ b → H a = some o → H' a = some o
  keep : TKeep K H H'
  bag : BagAt H' b d
theorem BagAt.atb (h : BagAt H b d) : ∃ o, H b = some o := by obtain ⟨_, _, _, e, _⟩ := h; exact ⟨_, e⟩
theorem BagAt.atd (h : BagAt H b d) : ∃ o, H d = some o := by obtain ⟨_, _, _, _, e, _⟩ := h; exact ⟨_, e⟩
theorem BagAt.neb (h : BagAt H b d) (n : H l = none) : l ≠ b := by
  obtain ⟨o, e⟩ := h.atb
  exact (ne_of_none e n).symm
theorem BagAt.ned (h : BagAt H b d) (n : H l = none) : l ≠ d := by
  obtain ⟨o, e⟩ := h.atd
  exact (ne_of_none e n).symm
theorem BagAt.keep (h : BagAt H b d) (eb : ∀ o, H b = some o → H' b = some o) (ed : ∀ o, H d = some o → H' d = some o) : BagAt H' b d := by
  obtain ⟨ne, n, ds, h1, h2, r⟩ := h
  exact ⟨ne, n, ds, eb _ h1, ed _ h2, r⟩
theorem BagAt.hs (e : Same H H') (h : BagAt H b d) : BagAt H' b d := h.keep (e _) (e _)
theorem BagAt.hu (n : H p = none) (h : BagAt H b d) : BagAt (L2.upd H p o) b d := h.hs (Same.up (Same.refl _) n)
theorem BagAt.hn (nb : p ≠ b) (nd : p ≠ d) (h : BagAt H b d) : BagAt (L2.upd H p o) b d := h.keep (fun _ e => HAt.hn nb.symm e) (fun _ e => HAt.hn nd.symm e)
theorem Bs.refl (h : BagAt H b d) : Bs K b d H H := ⟨fun _ _ _ e => e, TKeep.refl, h⟩
theorem Bs.trans {H1 : Hp} (x : Bs K b d H H1) (y : Bs K b d H1 H') : Bs K b d H H' := ⟨fun a o n e => y.off a o n (x.off a o n e), x.keep.trans y.keep, y.bag⟩
theorem Bs.hs {H1 : Hp} (e : Same H1 H') (x : Bs K b d H H1) : Bs K b d H H' := ⟨fun a o n q => e _ _ (x.off a o n q), x.keep.trans (.ofSame e), x.bag.hs e⟩
theorem Bs.hu {H1 : Hp} (n : H1 p = none) (x : Bs K b d H H1) : Bs K b d H (L2.upd H1 p o) := x.hs (Same.up (Same.refl _) n)
theorem Bs.hb {H1 : Hp} (y : Bs K b d H1 H') (x : Bs K b d H H1) : Bs K b d H H' := x.trans y
/-- a list of ours is written -/
theorem Bs.hl {H1 : Hp} (n : H l = none) (hl : H1 l = some (.lst ys)) (h : BagAt H b d) (x : Bs K b d H H1) : Bs K b d H (L2.upd H1 l o) :=
  ⟨fun a o' na e => HAt.hn (ne_of_none e n) (x.off a o' na e), x.keep.upL hl, x.bag.hn (h.neb n) (h.ned n)⟩
theorem Bs.free (x : Bs K b d H H') (n : H' l = none) : H l = none := by
  cases q : H l with
  | none => rfl
  | some o =>
    by_cases e : l = b
    · subst e
      obtain ⟨o', e'⟩ := x.bag.atb
      rw [n] at e'; cases e'
    · rw [x.off l o e q] at n; cases n
theorem SqT.hb (e : Bs K b d H H') (h : SqT K H a xs) : SqT K H' a xs := e.keep _ _ h
theorem StepAt.hb (e : Bs K b d H H') (h : StepAt K H v s) : StepAt K H' v s := StepAt.keep e.keep h
theorem PipeAt.hb (e : Bs K b d H H') (h : PipeAt K H v q) : PipeAt K H' v q := PipeAt.keep e.keep h
theorem HAt.hb (e : Bs K b d H H') (n : a ≠ b) (h : H a = some u) : H' a = some u := e.off _ _ n h
theorem SqL.hb (e : Bs K b d H H') (n : a ≠ b) (h : SqL K H a xs) : SqL K H' a xs := by
  rcases h with (h | ⟨ob, h⟩) | h
  · exact .inl (.inl (e.off _ _ n h))
  · exact .inl (.inr ⟨ob, e.off _ _ n h⟩)
  · exact .inr h
end
end My
namespace My
open PySem L2
/-! ### the bags of a law -/
structure BagsAt (H : Hp) (q : Addr) (bs : List (Addr × Addr)) : Prop where
  lst : H q = some (.lst (bs.map fun p => .ref p.1))
  bag : ∀ p ∈ bs, BagAt H p.1 p.2
  apart : bs.Pairwise fun p r => r.1 ≠ p.1 ∧ r.2 ≠ p.1
  nq : ∀ p ∈ bs, q ≠ p.1
theorem fl_bags {K : PySem.W.Frag} {q : Addr} {bs : List (Addr × Addr)} {g : TG} {tb : TS} {D : Ends} {σ : St} {H : Hp} (hB : BagsAt H q bs) (S : St → Prop) (h0 : S σ)
    (hs : ∀ b d σ' H', S σ' → BagAt H' b d → g (.ref b) σ' H' fun σ2 H2 => tb { D with nx := fun σ3 H3 => Bs K b d H' H3 ∧ S σ3, ct := fun σ3 H3 => Bs K b d H' H3 ∧ S σ3, bk := D.nx } σ2 H2)
    (hd : ∀ σ' H', S σ' → D.nx σ' H') : FLoop (Itl K q) g tb D σ H := by
  obtain ⟨hl, hb, ha, hq⟩ := hB
  refine ⟨fun i m σ' H' => m = bs.length - i ∧ i ≤ bs.length ∧ S σ' ∧ H' q = some (.lst (bs.map fun p => .ref p.1)) ∧ ∀ p ∈ bs.drop i, BagAt H' p.1 p.2, ⟨_, rfl, Nat.zero_le _, h0, hl, fun p hp => hb p (List.mem_of_mem_drop hp)⟩, ?_⟩
  rintro i m σ' H' ⟨rfl, hi, hS, hl', hb'⟩
  have hL : SqL K H' q (bs.map fun p => .ref p.1) := SqL.of hl'
  by_cases hlt : i < bs.length
  · have hx : (bs.map fun p => V.ref p.1)[i]? = some (.ref bs[i].1) := by rw [List.getElem?_map, List.getElem?_eq_getElem hlt]; rfl
    have hd' : bs.drop i = bs[i] :: bs.drop (i + 1) := List.drop_eq_getElem_cons hlt
    refine .inr ⟨⟨_, _, hL, hx⟩, fun σ3 H3 => Bs K bs[i].1 bs[i].2 H' H3 ∧ S σ3, ?_, ?_⟩
    · rintro σ3 H3 ⟨hB, hS3⟩
      refine ⟨bs.length - (i + 1), by omega, rfl, hlt, hS3, hB.off _ _ (hq _ (List.getElem_mem hlt)) hl', fun p hp => ?_⟩
      have hpm : p ∈ bs.drop i := by rw [hd']; exact List.mem_cons_of_mem _ hp
      have hap : p.1 ≠ bs[i].1 ∧ p.2 ≠ bs[i].1 := by
        have h1 : (bs.drop i).Pairwise fun p r => r.1 ≠ p.1 ∧ r.2 ≠ p.1 := List.Pairwise.sublist (List.drop_sublist i bs) ha
        rw [hd', List.pairwise_cons] at h1
        exact h1.1 p hp
      exact (hb' p hpm).keep (fun _ e => hB.off _ _ hap.1 e) (fun _ e => hB.off _ _ hap.2 e)
    · rintro x H2 ⟨rfl, hx2⟩
      have ex : x = .ref bs[i].1 := Option.some.inj ((hx2 _ hL).symm.trans hx)
      subst ex
      exact hs _ _ σ' _ hS (hb' _ (by rw [hd']; exact List.mem_cons_self))
  · refine .inl ⟨⟨_, hL, by rw [List.length_map]; omega⟩, hd σ' H' hS⟩
theorem pick3 {a b c r : Int} (h0 : 0 ≤ r) (h1 : r < 3) {lo hi : Int} (ha : lo ≤ a ∧ a ≤ hi) (hb : lo ≤ b ∧ b ≤ hi) (hc : lo ≤ c ∧ c ≤ hi) : ∃ z, atI [V.int a, V.int b, V.int c] r = some (.int z) ∧ lo ≤ z ∧ z ≤ hi := by
  rcases (show r = 0 ∨ r = 1 ∨ r = 2 by omega) with rfl | rfl | rfl
  · exact ⟨a, rfl, ha⟩
  · exact ⟨b, rfl, hb⟩
  · exact ⟨c, rfl, hc⟩
theorem pick4 {a b c e r : Int} (h0 : 0 ≤ r) (h1 : r < 4) {lo hi : Int} (ha : lo ≤ a ∧ a ≤ hi) (hb : lo ≤ b ∧ b ≤ hi) (hc : lo ≤ c ∧ c ≤ hi) (he : lo ≤ e ∧ e ≤ hi) : ∃ z, atI [V.int a, V.int b, V.int c, V.int e] r = some (.int z) ∧ lo ≤ z ∧ z ≤ hi := by
  rcases (show r = 0 ∨ r = 1 ∨ r = 2 ∨ r = 3 by omega) with rfl | rfl | rfl | rfl
  · exact ⟨a, rfl, ha⟩
  · exact ⟨b, rfl, hb⟩
  · exact ⟨c, rfl, hc⟩
  · exact ⟨e, rfl, he⟩
theorem emod_b {x m : Int} (h : 0 < m) : 0 ≤ x % m ∧ x % m < m := ⟨Int.emod_nonneg _ (by omega), Int.emod_lt_of_pos _ h⟩
end My
namespace My
open PySem L2
theorem r_pick3 {K : PySem.W.Frag} {H : Hp} {Q : VK} {p : Addr} {a b c r : Int} {lo hi : Int} (h : SqL K H p [.int a, .int b, .int c]) (h0 : 0 ≤ r) (h1 : r < 3) (ha : lo ≤ a ∧ a ≤ hi) (hb : lo ≤ b ∧ b ≤ hi) (hc : lo ≤ c ∧ c ≤ hi)
    (q : ∀ z, lo ≤ z → z ≤ hi → Q (.int z) H) : rIxL K (.ref p) (.int r) H Q := by
  obtain ⟨z, hz, z0, z1⟩ := pick3 h0 h1 ha hb hc
  exact r_ixL h hz (q z z0 z1)
theorem r_pick4 {K : PySem.W.Frag} {H : Hp} {Q : VK} {p : Addr} {a b c e r : Int} {lo hi : Int} (h : SqL K H p [.int a, .int b, .int c, .int e]) (h0 : 0 ≤ r) (h1 : r < 4) (ha : lo ≤ a ∧ a ≤ hi) (hb : lo ≤ b ∧ b ≤ hi) (hc : lo ≤ c ∧ c ≤ hi) (he : lo ≤ e ∧ e ≤ hi)
    (q : ∀ z, lo ≤ z → z ≤ hi → Q (.int z) H) : rIxL K (.ref p) (.int r) H Q := by
  obtain ⟨z, hz, z0, z1⟩ := pick4 h0 h1 ha hb hc he
  exact r_ixL h hz (q z z0 z1)
end My
namespace My
open PySem L2
theorem NEb {H : Hp} {l b d : Addr} (n : H l = none) (h : BagAt H b d) : l ≠ b := h.neb n
theorem NEd {H : Hp} {l b d : Addr} (n : H l = none) (h : BagAt H b d) : l ≠ d := h.ned n
end My
namespace My
open PySem L2
theorem r_yes {σ : St} {H : Hp} {Q : Bool → Hp → Prop} (h : Q true H) : tYes σ H Q := h
theorem Pipe.prod_nil : Pipe.prod [] = 1 := rfl
theorem Pipe.prod_snoc (p : Pipe) (s : Step) : Pipe.prod (p ++ [s]) = Pipe.prod p * s.per := by unfold Pipe.prod; simp [List.foldl_append]
theorem foldl_mul (l : List Int) : ∀ a : Int, l.foldl (fun a b => a * b) a = a * l.foldl (fun a b => a * b) 1 := by
  induction l with
  | nil => intro a; simp
  | cons x r ih => intro a; simp only [List.foldl_cons]; rw [ih (a * x), ih (1 * x), Int.one_mul, Int.mul_assoc]
theorem Pipe.prod_cons (p : Pipe) (s : Step) : Pipe.prod (s :: p) = s.per * Pipe.prod p := by
  unfold Pipe.prod
  simp only [List.map_cons, List.foldl_cons]
  rw [foldl_mul]
  simp
theorem one_le_mul {a b : Int} (h : 1 ≤ a) (h' : 1 ≤ b) : 1 ≤ a * b := by
  have := Int.mul_le_mul h h' (by omega) (by omega)
  simpa using this
theorem le_of_mul_le_r {a b c : Int} (h : 1 ≤ a) (h' : 0 ≤ b) (e : a * b ≤ c) : b ≤ c := by
  have := Int.mul_le_mul_of_nonneg_right h h'
  omega
theorem Pipe.prod_pos : ∀ {p : Pipe}, (∀ s ∈ p, s.ok) → 1 ≤ p.prod
  | [], _ => by decide
  | s :: p, h => by
    rw [Pipe.prod_cons]
    exact one_le_mul (Step.per_pos (h s (by simp))).1 (Pipe.prod_pos fun t ht => h t (by simp [ht]))
theorem prod_step {q a e l : Int} (hq : 1 ≤ q) (he : 1 ≤ e) (h : q * a ≤ l) : q * e * (a / e) ≤ l := by
  have h1 : e * (a / e) ≤ a := Int.mul_ediv_self_le (by omega)
  have h2 : q * (e * (a / e)) ≤ q * a := Int.mul_le_mul_of_nonneg_left h1 (by omega)
  rw [Int.mul_assoc]; omega
theorem one_le_div {a e : Int} (he : 1 ≤ e) (h : e ≤ a) : 1 ≤ a / e := by
  rw [Int.le_ediv_iff_mul_le (by omega)]; omega
end My
namespace My
theorem Paired.snoc {α β : Type} {F : α → β → Prop} : ∀ {xs : List α} {ys : List β} {x : α} {y : β}, PySem.Paired F xs ys → F x y → PySem.Paired F (xs ++ [x]) (ys ++ [y])
  | _, _, _, _, .nil, h => .cons h .nil
  | _, _, _, _, .cons r t, h => .cons r (Paired.snoc t h)
end My
namespace My
open PySem L2
/-! ### lists of ints compared -/
section
variable {K : PySem.W.Frag} {H : Hp} {Q : VK}
theorem dpAllInts : ∀ ns : List Int, DpAll K H (ns.map V.int) (ns.map PyData.int)
  | [] => .nil
  | n :: ns => .cons (.int n) (dpAllInts ns)
theorem dpInts {a : Addr} {ns : List Int} (h : SqL K H a (ns.map V.int)) : Dp K H (.ref a) (.list (ns.map PyData.int)) := .lst h (dpAllInts ns)
theorem dpIntsT {a : Addr} {ns : List Int} (h : SqT K H a (ns.map V.int)) : Dp K H (.ref a) (.tuple (ns.map PyData.int)) := .tup h (dpAllInts ns)
theorem lay_ints : ∀ ns : List Int, PyData.canLayAll0 (ns.map PyData.int) = true ∧ PyData.depthAll (ns.map PyData.int) = 0
  | [] => ⟨rfl, rfl⟩
  | n :: ns => by
    have h := lay_ints ns
    simp [PyData.canLayAll0, PyData.depthAll, PyData.canLay0, PyData.depth, h.1, h.2]
theorem shaped_ints (ns : List Int) : SeqAt.shaped (.list (ns.map PyData.int)) = true := by
  have h := lay_ints ns
  unfold SeqAt.shaped
  simp [PyData.canLay0, PyData.depth, h.1, h.2]
theorem shaped_intsT (ns : List Int) : SeqAt.shaped (.tuple (ns.map PyData.int)) = true := by
  have h := lay_ints ns
  unfold SeqAt.shaped
  simp [PyData.canLay0, PyData.depth, h.1, h.2]
theorem eqv_self {d : PyData} (h : SeqAt.shaped d = true) : PyData.eqv d d = true := SeqAt.eqv_refl d (SeqAt.canLay_of_shaped h)
theorem r_neSelf {x y : V} {d : PyData} (hx : Dp K H x d) (hy : Dp K H y d) (s : SeqAt.shaped d = true) (q : Q (.bl false) H) : rNeD K x y H Q := r_neD hx hy s s (by rw [eqv_self s]; exact q)
theorem r_eqSelf {x y : V} {d : PyData} (hx : Dp K H x d) (hy : Dp K H y d) (s : SeqAt.shaped d = true) (q : Q (.bl true) H) : rEqD K x y H Q := r_eqD hx hy s s (by rw [eqv_self s]; exact q)
theorem r_neInts {a b : Addr} {ns : List Int} (h1 : SqL K H a (ns.map V.int)) (h2 : SqL K H b (ns.map V.int)) (q : Q (.bl false) H) : rNeD K (.ref a) (.ref b) H Q := r_neSelf (dpInts h1) (dpInts h2) (shaped_ints ns) q
theorem r_eqInts {a b : Addr} {ns : List Int} (h1 : SqL K H a (ns.map V.int)) (h2 : SqL K H b (ns.map V.int)) (q : Q (.bl true) H) : rEqD K (.ref a) (.ref b) H Q := r_eqSelf (dpInts h1) (dpInts h2) (shaped_ints ns) q
end
end My
namespace My
open PySem L2
section
variable {K : PySem.W.Frag} {H : Hp} {Q : VK}
theorem StepAt.evA {a : Addr} {m : Int} (h : SqT K H a [.str "even", .int m]) : StepAt K H (.ref a) (.ev m) := ⟨a, rfl, h⟩
theorem StepAt.scA {a : Addr} {k m c : Int} (h : SqT K H a [.str "scale", .int k, .int m, .int c]) : StepAt K H (.ref a) (.sc k m c) := ⟨a, rfl, h⟩
theorem PipeAt.mk {a : Addr} {xs : List V} {p : Pipe} (h : SqT K H a xs) (r : Paired (StepAt K H) xs p) : PipeAt K H (.ref a) p := ⟨a, xs, rfl, h, r⟩
theorem pairNil : Paired (StepAt K H) [] [] := .nil
theorem pairCons {v : V} {s : Step} {xs : List V} {p : Pipe} (h : StepAt K H v s) (t : Paired (StepAt K H) xs p) : Paired (StepAt K H) (v :: xs) (s :: p) := .cons h t
theorem r_isiLT {a : Addr} {xs : List V} {T : String} (h : SqL K H a xs) (e : kitB "list" T = some true) (q : Q (.bl true) H) : rIsi K [.ref a, .ty T] H Q := by
  refine ⟨.ref a, .ty T, .type "list", _, true, rfl, .ty T, ?_, kit_ty e, q⟩
  rcases h with (h | ⟨o, h⟩) | ⟨o, its, n, h, c, _⟩
  · exact .base (.lst h)
  · exact .base (.frz h)
  · exact .kList h c
theorem r_isiLF {a : Addr} {xs : List V} {T : String} (h : SqL K H a xs) (e : kitB "list" T = some false) (q : Q (.bl false) H) : rIsi K [.ref a, .ty T] H Q := by
  refine ⟨.ref a, .ty T, .type "list", _, false, rfl, .ty T, ?_, kit_ty e, q⟩
  rcases h with (h | ⟨o, h⟩) | ⟨o, its, n, h, c, _⟩
  · exact .base (.lst h)
  · exact .base (.frz h)
  · exact .kList h c
end
instance (s : Step) : Decidable s.ok := by cases s <;> (unfold Step.ok; infer_instance)
instance (p : Pipe) : Decidable p.ok := by unfold Pipe.ok; infer_instance
instance (s : Step) : Decidable s.pos := by cases s <;> (unfold Step.pos; infer_instance)
instance (p : Pipe) : Decidable p.pos := by unfold Pipe.pos; infer_instance
end My
namespace My
open PySem L2
section
variable {K : PySem.W.Frag} {H : Hp}
theorem StepAt.newE {a : Addr} {m : Int} : StepAt K (L2.upd H a (.tup [.str "even", .int m])) (.ref a) (.ev m) := ⟨a, rfl, SqT.new⟩
theorem StepAt.newS {a : Addr} {k m c : Int} : StepAt K (L2.upd H a (.tup [.str "scale", .int k, .int m, .int c])) (.ref a) (.sc k m c) := ⟨a, rfl, SqT.new⟩
theorem PipeAt.new {a : Addr} {xs : List V} {p : Pipe} (r : Paired (StepAt K (L2.upd H a (.tup xs))) xs p) : PipeAt K (L2.upd H a (.tup xs)) (.ref a) p := ⟨a, xs, rfl, SqT.new, r⟩
end
end My
namespace My
open PySem L2
theorem SqL.hn {K : PySem.W.Frag} {H : Hp} {a p : Addr} {xs : List V} {o : HO} (n : a ≠ p) (h : SqL K H a xs) : SqL K (L2.upd H p o) a xs := by
  rcases h with (h | ⟨ob, h⟩) | h
  · exact .inl (.inl (HAt.hn n h))
  · exact .inl (.inr ⟨ob, HAt.hn n h⟩)
  · exact .inr h
theorem NEs {H : Hp} {a b : Addr} {o : HO} (n : H b = none) (h : H a = some o) : a ≠ b := ne_of_none h n
end My

namespace My
open PySem L2
def topS (i : Nat) : Stmt := PySem.Challenge.pw_stepscale_k02_values_of_pipelines.main.body.getD i (.Pass ⟨0, 0, 0, 0⟩)
section
variable {P : Program} {w : World} {K : PySem.W.Frag} {mg : Str → Option Value} {base : Heap}
abbrev s_is_integer : Stmt := topS 9
abbrev n_is_integer : List Str := ["value", "low", "high"]
theorem sc_is_integer : FnScope n_is_integer ["value", "low", "high"] (defScope s_is_integer) := ⟨rfl, rfl, rfl, by decide +kernel, rfl, by decide +kernel, by decide +kernel⟩
def sp_is_integer (K : PySem.W.Frag) : Sp := fun vs H Q _ => ∃ v lo hi d, vs = [v, .int lo, .int hi] ∧ Dp K H v d ∧ ∀ H', Same H H' → Q (.bl (isIntD d lo hi)) H'
theorem sp_is_integer_len {vs H Q E} (h : sp_is_integer K vs H Q E) : vs.length = 3 := by obtain ⟨v, lo, hi, d, rfl, _⟩ := h; rfl
theorem u_is_integer {v : V} {d : PyData} {lo hi : Int} {H : Hp} {Q : VK} {E : XK} (h : Dp K H v d) (k : ∀ H', Same H H' → Q (.bl (isIntD d lo hi)) H') : sp_is_integer K [v, .int lo, .int hi] H Q E := ⟨v, lo, hi, d, rfl, h, k⟩
abbrev s_is_step : Stmt := topS 10
abbrev n_is_step : List Str := ["value"]
theorem sc_is_step : FnScope n_is_step ["value"] (defScope s_is_step) := ⟨rfl, rfl, rfl, by decide +kernel, rfl, by decide +kernel, by decide +kernel⟩
def sp_is_step (K : PySem.W.Frag) : Sp := fun vs H Q _ => ∃ v d, vs = [v] ∧ Dp K H v d ∧ SeqAt.shaped d = true ∧ ∀ H', Same H H' → Q (.bl (isStepD d)) H'
theorem sp_is_step_len {vs H Q E} (h : sp_is_step K vs H Q E) : vs.length = 1 := by obtain ⟨v, d, rfl, _⟩ := h; rfl
theorem u_is_step {v : V} {d : PyData} {H : Hp} {Q : VK} {E : XK} (h : Dp K H v d) (s : SeqAt.shaped d = true) (k : ∀ H', Same H H' → Q (.bl (isStepD d)) H') : sp_is_step K [v] H Q E := ⟨v, d, rfl, h, s, k⟩
abbrev s_step_period : Stmt := topS 11
abbrev n_step_period : List Str := ["step", "m"]
theorem sc_step_period : FnScope n_step_period ["step"] (defScope s_step_period) := ⟨rfl, rfl, rfl, by decide +kernel, rfl, by decide +kernel, by decide +kernel⟩
def sp_step_period (K : PySem.W.Frag) : Sp := fun vs H Q _ => ∃ v s, vs = [v] ∧ StepAt K H v s ∧ s.pos ∧ ∀ p H', Same H H' → SqT K H' p [.int s.per, .int s.rise] → Q (.ref p) H'
theorem sp_step_period_len {vs H Q E} (h : sp_step_period K vs H Q E) : vs.length = 1 := by obtain ⟨v, s, rfl, _⟩ := h; rfl
theorem u_step_period {v : V} {s : Step} {H : Hp} {Q : VK} {E : XK} (h : StepAt K H v s) (p : s.pos) (k : ∀ p H', Same H H' → SqT K H' p [.int s.per, .int s.rise] → Q (.ref p) H') : sp_step_period K [v] H Q E := ⟨v, s, rfl, h, p, k⟩
abbrev s_is_pipeline : Stmt := topS 12
abbrev n_is_pipeline : List Str := ["value", "step", "product"]
theorem sc_is_pipeline : FnScope n_is_pipeline ["value"] (defScope s_is_pipeline) := ⟨rfl, rfl, rfl, by decide +kernel, rfl, by decide +kernel, by decide +kernel⟩
def sp_is_pipeline (K : PySem.W.Frag) : Sp := fun vs H Q _ => ∃ v d, vs = [v] ∧ Dp K H v d ∧ SeqAt.shaped d = true ∧ ∀ H', Same H H' → Q (.bl (isPipeD d)) H'
theorem sp_is_pipeline_len {vs H Q E} (h : sp_is_pipeline K vs H Q E) : vs.length = 1 := by obtain ⟨v, d, rfl, _⟩ := h; rfl
theorem u_is_pipeline {v : V} {d : PyData} {H : Hp} {Q : VK} {E : XK} (h : Dp K H v d) (s : SeqAt.shaped d = true) (k : ∀ H', Same H H' → Q (.bl (isPipeD d)) H') : sp_is_pipeline K [v] H Q E := ⟨v, d, rfl, h, s, k⟩
theorem u_is_pipelineP {v : V} {p : Pipe} {H : Hp} {Q : VK} {E : XK} (h : PipeAt K H v p) (ok : p.ok) (k : ∀ H', Same H H' → Q (.bl true) H') : sp_is_pipeline K [v] H Q E :=
  ⟨v, pipeD p, rfl, h.dp, shaped_pipe p, fun H' hs => by rw [isPipeD_pipe.mpr ok]; exact k H' hs⟩
abbrev s_need_pipeline : Stmt := topS 13
abbrev n_need_pipeline : List Str := ["value"]
theorem sc_need_pipeline : FnScope n_need_pipeline ["value"] (defScope s_need_pipeline) := ⟨rfl, rfl, rfl, by decide +kernel, rfl, by decide +kernel, by decide +kernel⟩
def sp_need_pipeline (K : PySem.W.Frag) : Sp := fun vs H Q _ => ∃ v p, vs = [v] ∧ PipeAt K H v p ∧ p.ok ∧ ∀ H', Same H H' → Q .non H'
theorem sp_need_pipeline_len {vs H Q E} (h : sp_need_pipeline K vs H Q E) : vs.length = 1 := by obtain ⟨v, d, rfl, _⟩ := h; rfl
theorem u_need_pipeline {v : V} {p : Pipe} {H : Hp} {Q : VK} {E : XK} (h : PipeAt K H v p) (s : p.ok) (k : ∀ H', Same H H' → Q .non H') : sp_need_pipeline K [v] H Q E := ⟨v, p, rfl, h, s, k⟩
abbrev s_need_integer : Stmt := topS 14
abbrev n_need_integer : List Str := ["value"]
theorem sc_need_integer : FnScope n_need_integer ["value"] (defScope s_need_integer) := ⟨rfl, rfl, rfl, by decide +kernel, rfl, by decide +kernel, by decide +kernel⟩
def sp_need_integer (K : PySem.W.Frag) : Sp := fun vs H Q _ => ∃ x : Int, vs = [.int x] ∧ (-1000000000000000000 ≤ x ∧ x ≤ 1000000000000000000) ∧ ∀ H', Same H H' → Q .non H'
theorem sp_need_integer_len {vs H Q E} (h : sp_need_integer K vs H Q E) : vs.length = 1 := by obtain ⟨v, rfl, _⟩ := h; rfl
theorem u_need_integer {x : Int} {H : Hp} {Q : VK} {E : XK} (h : -1000000000000000000 ≤ x ∧ x ≤ 1000000000000000000) (k : ∀ H', Same H H' → Q .non H') : sp_need_integer K [.int x] H Q E := ⟨x, rfl, h, k⟩
abbrev s_step_value : Stmt := topS 15
abbrev n_step_value : List Str := ["step", "x", "m", "quotient", "rest"]
theorem sc_step_value : FnScope n_step_value ["step", "x"] (defScope s_step_value) := ⟨rfl, rfl, rfl, by decide +kernel, rfl, by decide +kernel, by decide +kernel⟩
def sp_step_value (K : PySem.W.Frag) : Sp := fun vs H Q _ => ∃ v s x, vs = [v, .int x] ∧ StepAt K H v s ∧ s.pos ∧ ∀ H', Same H H' → Q (.int (s.val x)) H'
theorem sp_step_value_len {vs H Q E} (h : sp_step_value K vs H Q E) : vs.length = 2 := by obtain ⟨v, s, x, rfl, _⟩ := h; rfl
theorem u_step_value {v : V} {s : Step} {x : Int} {H : Hp} {Q : VK} {E : XK} (h : StepAt K H v s) (p : s.pos) (k : ∀ H', Same H H' → Q (.int (s.val x)) H') : sp_step_value K [v, .int x] H Q E := ⟨v, s, x, rfl, h, p, k⟩
abbrev s_value_at : Stmt := topS 16
abbrev n_value_at : List Str := ["pipeline", "x", "step"]
theorem sc_value_at : FnScope n_value_at ["pipeline", "x"] (defScope s_value_at) := ⟨rfl, rfl, rfl, by decide +kernel, rfl, by decide +kernel, by decide +kernel⟩
def sp_value_at (K : PySem.W.Frag) : Sp := fun vs H Q _ => ∃ v p x, vs = [v, .int x] ∧ PipeAt K H v p ∧ p.pos ∧ ∀ H', Same H H' → Q (.int (p.val x)) H'
theorem sp_value_at_len {vs H Q E} (h : sp_value_at K vs H Q E) : vs.length = 2 := by obtain ⟨v, s, x, rfl, _⟩ := h; rfl
theorem u_value_at {v : V} {p : Pipe} {x : Int} {H : Hp} {Q : VK} {E : XK} (h : PipeAt K H v p) (o : p.pos) (k : ∀ H', Same H H' → Q (.int (p.val x)) H') : sp_value_at K [v, .int x] H Q E := ⟨v, p, x, rfl, h, o, k⟩
abbrev s_apply : Stmt := topS 17
abbrev n_apply : List Str := ["pipeline", "x"]
theorem sc_apply : FnScope n_apply ["pipeline", "x"] (defScope s_apply) := ⟨rfl, rfl, rfl, by decide +kernel, rfl, by decide +kernel, by decide +kernel⟩
def ArgI (x : Int) : Prop := -1000000000000000000 ≤ x ∧ x ≤ 1000000000000000000
def sp_apply (K : PySem.W.Frag) : Sp := fun vs H Q _ => ∃ v p x, vs = [v, .int x] ∧ PipeAt K H v p ∧ p.ok ∧ (-1000000000000000000 ≤ x ∧ x ≤ 1000000000000000000) ∧ ∀ H', Same H H' → Q (.int (p.val x)) H'
theorem sp_apply_len {vs H Q E} (h : sp_apply K vs H Q E) : vs.length = 2 := by obtain ⟨v, s, x, rfl, _⟩ := h; rfl
theorem u_apply {v : V} {p : Pipe} {x : Int} {H : Hp} {Q : VK} {E : XK} (h : PipeAt K H v p) (o : p.ok) (b : -1000000000000000000 ≤ x ∧ x ≤ 1000000000000000000) (k : ∀ H', Same H H' → Q (.int (p.val x)) H') : sp_apply K [v, .int x] H Q E := ⟨v, p, x, rfl, h, o, b, k⟩
abbrev s_trace : Stmt := topS 18
abbrev n_trace : List Str := ["pipeline", "x", "values", "step"]
theorem sc_trace : FnScope n_trace ["pipeline", "x"] (defScope s_trace) := ⟨rfl, rfl, rfl, by decide +kernel, rfl, by decide +kernel, by decide +kernel⟩
def sp_trace (K : PySem.W.Frag) : Sp := fun vs H Q _ => ∃ v p x, vs = [v, .int x] ∧ PipeAt K H v p ∧ p.ok ∧ (-1000000000000000000 ≤ x ∧ x ≤ 1000000000000000000) ∧ ∀ q H', Same H H' → H q = none → H' q = some (.lst ((p.trace x).map V.int)) → Q (.ref q) H'
theorem sp_trace_len {vs H Q E} (h : sp_trace K vs H Q E) : vs.length = 2 := by obtain ⟨v, s, x, rfl, _⟩ := h; rfl
theorem u_trace {v : V} {p : Pipe} {x : Int} {H : Hp} {Q : VK} {E : XK} (h : PipeAt K H v p) (o : p.ok) (b : -1000000000000000000 ≤ x ∧ x ≤ 1000000000000000000) (k : ∀ q H', Same H H' → H q = none → H' q = some (.lst ((p.trace x).map V.int)) → Q (.ref q) H') : sp_trace K [v, .int x] H Q E := ⟨v, p, x, rfl, h, o, b, k⟩
abbrev s_law_cell_at : Stmt := topS 20
abbrev n_law_cell_at : List Str := ["script", "k"]
theorem sc_law_cell_at : FnScope n_law_cell_at ["script", "k"] (defScope s_law_cell_at) := ⟨rfl, rfl, rfl, by decide +kernel, rfl, by decide +kernel, by decide +kernel⟩
def sp_law_cell_at (K : PySem.W.Frag) : Sp := fun vs H Q _ => ∃ (a : Addr) (ns : List Int) (k : Int), vs = [.ref a, .int k] ∧ SqL K H a (ns.map V.int) ∧ 0 ≤ k ∧ ∀ r H', Same H H' → Q (.int r) H'
theorem sp_law_cell_at_len {vs H Q E} (h : sp_law_cell_at K vs H Q E) : vs.length = 2 := by obtain ⟨a, ns, k, rfl, _⟩ := h; rfl
theorem u_law_cell_at {a : Addr} {ns : List Int} {x : Int} {H : Hp} {Q : VK} {E : XK} (h : SqL K H a (ns.map V.int)) (b : 0 ≤ x) (k : ∀ r H', Same H H' → Q (.int r) H') : sp_law_cell_at K [.ref a, .int x] H Q E := ⟨a, ns, x, rfl, h, b, k⟩
abbrev s_law_draws : Stmt := topS 21
abbrev n_law_draws : List Str := ["cell", "many", "size", "found", "rest", "stirred", "k"]
theorem sc_law_draws : FnScope n_law_draws ["cell", "many", "size"] (defScope s_law_draws) := ⟨rfl, rfl, rfl, by decide +kernel, rfl, by decide +kernel, by decide +kernel⟩
def sp_law_draws (K : PySem.W.Frag) : Sp := fun vs H Q _ => ∃ (c : Int), vs = [.int c, .int 400, .int 1000] ∧ ∀ q (ds : List Int) H', Same H H' → H q = none → H' q = some (.lst (ds.map V.int)) → ds.length = 400 → (∀ z ∈ ds, 0 ≤ z) → Q (.ref q) H'
theorem sp_law_draws_len {vs H Q E} (h : sp_law_draws K vs H Q E) : vs.length = 3 := by obtain ⟨a, rfl, _⟩ := h; rfl
theorem u_law_draws {c : Int} {H : Hp} {Q : VK} {E : XK} (k : ∀ q (ds : List Int) H', Same H H' → H q = none → H' q = some (.lst (ds.map V.int)) → ds.length = 400 → (∀ z ∈ ds, 0 ≤ z) → Q (.ref q) H') : sp_law_draws K [.int c, .int 400, .int 1000] H Q E := ⟨c, rfl, k⟩
abbrev s_law_bag : Stmt := topS 22
abbrev n_law_bag : List Str := ["script", "k"]
theorem sc_law_bag : FnScope n_law_bag ["script", "k"] (defScope s_law_bag) := ⟨rfl, rfl, rfl, by decide +kernel, rfl, by decide +kernel, by decide +kernel⟩
def sp_law_bag (K : PySem.W.Frag) : Sp := fun vs H Q _ => ∃ (a : Addr) (ns : List Int) (k : Int), vs = [.ref a, .int k] ∧ SqL K H a (ns.map V.int) ∧ 0 ≤ k ∧ ∀ b d H', Same H H' → H b = none → H d = none → BagAt H' b d → Q (.ref b) H'
theorem sp_law_bag_len {vs H Q E} (h : sp_law_bag K vs H Q E) : vs.length = 2 := by obtain ⟨a, ns, k, rfl, _⟩ := h; rfl
theorem u_law_bag {a : Addr} {ns : List Int} {x : Int} {H : Hp} {Q : VK} {E : XK} (h : SqL K H a (ns.map V.int)) (b : 0 ≤ x) (k : ∀ b d H', Same H H' → H b = none → H d = none → BagAt H' b d → Q (.ref b) H') : sp_law_bag K [.ref a, .int x] H Q E := ⟨a, ns, x, rfl, h, b, k⟩
abbrev s_law_bags : Stmt := topS 23
abbrev n_law_bags : List Str := ["script", "limit", "k"]
theorem sc_law_bags : FnScope n_law_bags ["script", "limit"] (defScope s_law_bags) := ⟨rfl, rfl, rfl, by decide +kernel, rfl, by decide +kernel, by decide +kernel⟩
def sp_law_bags (K : PySem.W.Frag) : Sp := fun vs H Q _ => ∃ (a : Addr) (ns : List Int) (l : Int), vs = [.ref a, .int l] ∧ SqL K H a (ns.map V.int) ∧ l ≤ 10 ∧ ∀ q bs H', Same H H' → H q = none → BagsAt H' q bs → Q (.ref q) H'
theorem sp_law_bags_len {vs H Q E} (h : sp_law_bags K vs H Q E) : vs.length = 2 := by obtain ⟨a, ns, k, rfl, _⟩ := h; rfl
theorem u_law_bags {a : Addr} {ns : List Int} {x : Int} {H : Hp} {Q : VK} {E : XK} (h : SqL K H a (ns.map V.int)) (b : x ≤ 10) (k : ∀ q bs H', Same H H' → H q = none → BagsAt H' q bs → Q (.ref q) H') : sp_law_bags K [.ref a, .int x] H Q E := ⟨a, ns, x, rfl, h, b, k⟩
abbrev s_law_take : Stmt := topS 24
abbrev n_law_take : List Str := ["bag", "many"]
theorem sc_law_take : FnScope n_law_take ["bag", "many"] (defScope s_law_take) := ⟨rfl, rfl, rfl, by decide +kernel, rfl, by decide +kernel, by decide +kernel⟩
def sp_law_take (K : PySem.W.Frag) : Sp := fun vs H Q _ => ∃ (b d : Addr) (m : Int), vs = [.ref b, .int m] ∧ BagAt H b d ∧ 0 < m ∧ ∀ r H', Bs K b d H H' → 0 ≤ r → r < m → Q (.int r) H'
theorem sp_law_take_len {vs H Q E} (h : sp_law_take K vs H Q E) : vs.length = 2 := by obtain ⟨a, d, m, rfl, _⟩ := h; rfl
theorem u_law_take {b d : Addr} {m : Int} {H : Hp} {Q : VK} {E : XK} (h : BagAt H b d) (o : 0 < m) (k : ∀ r H', Bs K b d H H' → 0 ≤ r → r < m → Q (.int r) H') : sp_law_take K [.ref b, .int m] H Q E := ⟨b, d, m, rfl, h, o, k⟩
abbrev s_law_far_draw : Stmt := topS 25
abbrev n_law_far_draw : List Str := ["bag", "many", "found", "much"]
theorem sc_law_far_draw : FnScope n_law_far_draw ["bag", "many"] (defScope s_law_far_draw) := ⟨rfl, rfl, rfl, by decide +kernel, rfl, by decide +kernel, by decide +kernel⟩
def sp_law_far_draw (K : PySem.W.Frag) : Sp := fun vs H Q _ => ∃ (b d : Addr) (m : Int), vs = [.ref b, .int m] ∧ BagAt H b d ∧ 0 < m ∧ ∀ r H', Bs K b d H H' → 0 ≤ r → r < m → Q (.int r) H'
theorem sp_law_far_draw_len {vs H Q E} (h : sp_law_far_draw K vs H Q E) : vs.length = 2 := by obtain ⟨a, d, m, rfl, _⟩ := h; rfl
theorem u_law_far_draw {b d : Addr} {m : Int} {H : Hp} {Q : VK} {E : XK} (h : BagAt H b d) (o : 0 < m) (k : ∀ r H', Bs K b d H H' → 0 ≤ r → r < m → Q (.int r) H') : sp_law_far_draw K [.ref b, .int m] H Q E := ⟨b, d, m, rfl, h, o, k⟩
abbrev s_law_step_period : Stmt := topS 26
abbrev n_law_step_period : List Str := ["step"]
theorem sc_law_step_period : FnScope n_law_step_period ["step"] (defScope s_law_step_period) := ⟨rfl, rfl, rfl, by decide +kernel, rfl, by decide +kernel, by decide +kernel⟩
def sp_law_step_period (K : PySem.W.Frag) : Sp := fun vs H Q _ => ∃ v s, vs = [v] ∧ StepAt K H v s ∧ s.pos ∧ ∀ H', Same H H' → Q (.int s.per) H'
theorem sp_law_step_period_len {vs H Q E} (h : sp_law_step_period K vs H Q E) : vs.length = 1 := by obtain ⟨v, s, rfl, _⟩ := h; rfl
theorem u_law_step_period {v : V} {s : Step} {H : Hp} {Q : VK} {E : XK} (h : StepAt K H v s) (p : s.pos) (k : ∀ H', Same H H' → Q (.int s.per) H') : sp_law_step_period K [v] H Q E := ⟨v, s, rfl, h, p, k⟩
abbrev s_law_step : Stmt := topS 27
abbrev n_law_step : List Str := ["bag", "limit", "m", "k", "far", "c"]
theorem sc_law_step : FnScope n_law_step ["bag", "limit"] (defScope s_law_step) := ⟨rfl, rfl, rfl, by decide +kernel, rfl, by decide +kernel, by decide +kernel⟩
def sp_law_step (K : PySem.W.Frag) : Sp := fun vs H Q _ => ∃ (b d : Addr) (l : Int), vs = [.ref b, .int l] ∧ BagAt H b d ∧ (1 ≤ l ∧ l ≤ 120) ∧ ∀ v s H', Bs K b d H H' → StepAt K H' v s → s.ok → (∀ k m c, s = .sc k m c → m ≤ l) → Q v H'
theorem sp_law_step_len {vs H Q E} (h : sp_law_step K vs H Q E) : vs.length = 2 := by obtain ⟨a, d, m, rfl, _⟩ := h; rfl
theorem u_law_step {b d : Addr} {l : Int} {H : Hp} {Q : VK} {E : XK} (h : BagAt H b d) (o : 1 ≤ l ∧ l ≤ 120) (k : ∀ v s H', Bs K b d H H' → StepAt K H' v s → s.ok → (∀ k m c, s = .sc k m c → m ≤ l) → Q v H') : sp_law_step K [.ref b, .int l] H Q E := ⟨b, d, l, rfl, h, o, k⟩
abbrev s_law_pipeline : Stmt := topS 28
abbrev n_law_pipeline : List Str := ["bag", "most", "limit", "found", "left", "turn", "step"]
theorem sc_law_pipeline : FnScope n_law_pipeline ["bag", "most", "limit"] (defScope s_law_pipeline) := ⟨rfl, rfl, rfl, by decide +kernel, rfl, by decide +kernel, by decide +kernel⟩
def sp_law_pipeline (K : PySem.W.Frag) : Sp := fun vs H Q _ => ∃ (b d : Addr) (m l : Int), vs = [.ref b, .int m, .int l] ∧ BagAt H b d ∧ (0 ≤ m ∧ m ≤ 6) ∧ (1 ≤ l ∧ l ≤ 120) ∧ ∀ v (p : Pipe) H', Bs K b d H H' → PipeAt K H' v p → (p.length : Int) ≤ m → (∀ s ∈ p, s.ok) → p.prod ≤ l → Q v H'
theorem sp_law_pipeline_len {vs H Q E} (h : sp_law_pipeline K vs H Q E) : vs.length = 3 := by obtain ⟨a, d, m, l, rfl, _⟩ := h; rfl
theorem u_law_pipeline {b d : Addr} {m l : Int} {H : Hp} {Q : VK} {E : XK} (h : BagAt H b d) (o1 : 0 ≤ m ∧ m ≤ 6) (o : 1 ≤ l ∧ l ≤ 120) (k : ∀ v (p : Pipe) H', Bs K b d H H' → PipeAt K H' v p → (p.length : Int) ≤ m → (∀ s ∈ p, s.ok) → p.prod ≤ l → Q v H') : sp_law_pipeline K [.ref b, .int m, .int l] H Q E := ⟨b, d, m, l, rfl, h, o1, o, k⟩
abbrev s_law_integer : Stmt := topS 29
abbrev n_law_integer : List Str := ["bag", "size"]
theorem sc_law_integer : FnScope n_law_integer ["bag"] (defScope s_law_integer) := ⟨rfl, rfl, rfl, by decide +kernel, rfl, by decide +kernel, by decide +kernel⟩
def sp_law_integer (K : PySem.W.Frag) : Sp := fun vs H Q _ => ∃ (b d : Addr), vs = [.ref b] ∧ BagAt H b d ∧ ∀ r H', Bs K b d H H' → -100000000000000000 ≤ r → r ≤ 100000000000000000 → Q (.int r) H'
theorem sp_law_integer_len {vs H Q E} (h : sp_law_integer K vs H Q E) : vs.length = 1 := by obtain ⟨a, d, rfl, _⟩ := h; rfl
theorem u_law_integer {b d : Addr} {H : Hp} {Q : VK} {E : XK} (h : BagAt H b d) (k : ∀ r H', Bs K b d H H' → -100000000000000000 ≤ r → r ≤ 100000000000000000 → Q (.int r) H') : sp_law_integer K [.ref b] H Q E := ⟨b, d, rfl, h, k⟩
abbrev s_law_apply_step : Stmt := topS 30
abbrev n_law_apply_step : List Str := ["step", "x", "total", "m", "below", "to_below", "to_above"]
theorem sc_law_apply_step : FnScope n_law_apply_step ["step", "x"] (defScope s_law_apply_step) := ⟨rfl, rfl, rfl, by decide +kernel, rfl, by decide +kernel, by decide +kernel⟩
def sp_law_apply_step (K : PySem.W.Frag) : Sp := fun vs H Q _ => ∃ v s x, vs = [v, .int x] ∧ StepAt K H v s ∧ s.pos ∧ ∀ H', Same H H' → Q (.int (s.val x)) H'
theorem sp_law_apply_step_len {vs H Q E} (h : sp_law_apply_step K vs H Q E) : vs.length = 2 := by obtain ⟨v, s, x, rfl, _⟩ := h; rfl
theorem u_law_apply_step {v : V} {s : Step} {x : Int} {H : Hp} {Q : VK} {E : XK} (h : StepAt K H v s) (p : s.pos) (k : ∀ H', Same H H' → Q (.int (s.val x)) H') : sp_law_apply_step K [v, .int x] H Q E := ⟨v, s, x, rfl, h, p, k⟩
theorem sub_emod_div {t m : Int} (h : 0 < m) : (t - t % m) / m = t / m := by
  have h1 : t - t % m = m * (t / m) := by have := Int.mul_ediv_add_emod t m; omega
  rw [h1, Int.mul_ediv_cancel_left _ (by omega)]
abbrev s_law : Stmt := topS 31
abbrev n_law : List Str := ["script", "bag", "pipeline", "turn", "x", "values", "here", "step", "found", "m", "two"]
theorem sc_law : FnScope n_law ["script"] (defScope s_law) := ⟨rfl, rfl, rfl, by decide +kernel, rfl, by decide +kernel, by decide +kernel⟩
def sp_law (K : PySem.W.Frag) : Sp := fun vs H Q _ => ∃ (a : Addr) (ns : List Int), vs = [.ref a] ∧ SqL K H a (ns.map V.int) ∧ ∀ H', Q (.bl true) H'
theorem sp_law_len {vs H Q E} (h : sp_law K vs H Q E) : vs.length = 1 := by obtain ⟨a, ns, rfl, _⟩ := h; rfl
end
set_option hygiene false
local macro_rules | `(tactic| purse 1 => fail) => `(tactic| (with_reducible (repeat (first | assumption | exact Same.refl _ | refine Same.up ?_ (by assumption) | refine Same.upN ?_ (by assumption) | refine Same.trans ?_ (by assumption)))))
local macro_rules | `(tactic| purse 2 => fail) => `(tactic| (with_reducible (repeat (first | assumption | exact Dp.int _ | exact Dp.str _ | exact Dp.bl _ | exact Dp.non | exact SqT.new | exact SqL.new | exact SqL.of (by assumption) | exact StepAt.newE | exact StepAt.newS | (apply PipeAt.new; (purse 10 => fail)) | exact Bs.bag (by assumption) | (apply SqT.hs; (case e => assumption)) | (apply SqT.hu; (case n => assumption)) | (apply SqL.hs; (case e => assumption)) | (apply SqL.hu; (case n => assumption)) | (apply StepAt.hs; (case e => assumption)) | (apply StepAt.hu; (case n => assumption)) | (apply PipeAt.hs; (case e => assumption)) | (apply PipeAt.hu; (case n => assumption)) | (apply BagAt.hs; (case e => assumption)) | (apply BagAt.hu; (case n => assumption)) | (apply Dp.hs; (case e => assumption)) | (apply Dp.hu; (case n => assumption)) | (apply SqT.hb; (case e => assumption)) | (apply SqT.hl; (case n => (purse 3 => fail))) | (apply StepAt.hb; (case e => assumption)) | (apply StepAt.hl; (case n => (purse 3 => fail))) | (apply PipeAt.hb; (case e => assumption)) | (apply PipeAt.hl; (case n => (purse 3 => fail))) | (apply SqL.hb; (case e => assumption); (case n => (purse 5 => fail))) | (apply SqL.hn; (case n => (purse 5 => fail))) | (apply BagAt.hn; (case nb => (purse 5 => fail)); (case nd => (purse 5 => fail))))); done))
local macro_rules | `(tactic| purse 3 => fail) => `(tactic| (with_reducible (repeat (first | assumption | exact upd_same | (apply HAt.hs; (case e => assumption)) | (apply HAt.hu; (case n => assumption)) | (apply HAt.hb; (case e => assumption); (case n => (purse 5 => fail))) | (apply HAt.hn; (case n => (purse 5 => fail))))); done))
local macro_rules | `(tactic| purse 4 => fail) => `(tactic| (exact sz_lt (by (try simp only [List.length_map, List.length_append, List.length_cons, List.length_nil, List.length_take, List.length_range]); omega)))
local macro_rules | `(tactic| purse 5 => fail) => `(tactic| (with_reducible first | assumption | exact Ne.symm (by assumption) | (apply NEb; (case n => assumption); (case h => (purse 9 => fail))) | (apply NEd; (case n => assumption); (case h => (purse 9 => fail))) | (apply NEs; (case n => assumption); (case h => (purse 3 => fail)))))
local macro_rules | `(tactic| purse 6 => fail) => `(tactic| (with_reducible (repeat (first | assumption | exact Bs.refl (by assumption) | (apply Bs.hu; (case n => assumption)) | (apply Bs.hs; (case e => assumption)) | (apply Bs.hb; (case y => assumption)) | (apply Bs.hl; (case n => (purse 7 => fail)); (case hl => (purse 3 => fail)); (case h => assumption)))); done))
local macro_rules | `(tactic| purse 7 => fail) => `(tactic| (with_reducible first | assumption | (apply Bs.free; (case n => assumption); (case x => (purse 6 => fail))) | (apply Same.free; (case h => assumption); (case e => ((purse 1 => fail); done)))))
local macro_rules | `(tactic| purse 8 => fail) => `(tactic| ((try dsimp only [tyD]); with_reducible first | exact kB_NoneType_int | exact kB_bool_int | exact kB_int_int | exact kB_str_int | exact kB_list_int | exact kB_tuple_int | exact kB_NoneType_bool | exact kB_bool_bool | exact kB_int_bool | exact kB_str_bool | exact kB_list_bool | exact kB_tuple_bool | exact kB_NoneType_str | exact kB_bool_str | exact kB_int_str | exact kB_str_str | exact kB_list_str | exact kB_tuple_str | exact kB_NoneType_tuple | exact kB_bool_tuple | exact kB_int_tuple | exact kB_str_tuple | exact kB_list_tuple | exact kB_tuple_tuple | exact kB_NoneType_list | exact kB_bool_list | exact kB_int_list | exact kB_str_list | exact kB_list_list | exact kB_tuple_list))
local macro_rules | `(tactic| purse 9 => fail) => `(tactic| (repeat (first | assumption | exact Bs.bag (by assumption) | (apply BagAt.hs; (case e => assumption)) | (apply BagAt.hu; (case n => assumption)))))
local macro_rules | `(tactic| purse 10 => fail) => `(tactic| (with_reducible (repeat (first | exact pairNil | (apply pairCons; (case h => (purse 2 => fail))))); done))
local macro_rules | `(tactic| purse 11 => fail) => `(tactic| (first | ((with_reducible refine' r_var ?rdA ?_); (case rdA => rfl)) | ((with_reducible refine' r_c ?_)) | ((with_reducible refine' r_op ?_)) | ((with_reducible refine' r_i0 ?_)) | ((with_reducible refine' r_test ?_)) | ((with_reducible refine' r_exb ?_)) | ((with_reducible refine' r_cons ?_)) | ((with_reducible refine' r_nil ?_)) | ((with_reducible refine' r_can ?_)) | ((with_reducible refine' r_cb ?_)) | ((with_reducible refine' r_un ?_)) | ((with_reducible refine' r_u ?_)) | ((with_reducible refine' s_seq ?_)) | ((with_reducible refine' s_next ?_)) | ((with_reducible refine' s_asg ?_)) | ((with_reducible refine' s_name ?_)) | ((with_reducible refine' s_par ?_)) | ((with_reducible refine' s_par2 ?_)) | ((with_reducible refine' s_drop ?_)) | ((with_reducible refine' s_ret ?_)) | ((with_reducible refine' s_retN ?_)) | ((with_reducible refine' s_if ?_)) | ((with_reducible refine' r_and ?_)) | ((with_reducible refine' r_or ?_)) | ((with_reducible refine' r_not ?_)) | ((with_reducible refine' r_if ?_)) | ((with_reducible refine' r_andV ?_)) | ((with_reducible refine' r_orV ?_)) | ((with_reducible refine' r_notV ?_)) | ((with_reducible refine' r_b ?_)) | ((with_reducible refine' r_chain ?_)) | ((with_reducible refine' r_mul ?rdA ?_); (case rdA => first | (left; constructor <;> omega) | (right; constructor <;> omega) | exact cmul_b)) | ((with_reducible refine' r_div ?rdA ?_); (case rdA => constructor <;> omega)) | ((with_reducible refine' r_mod ?rdA ?_); (case rdA => omega)) | ((with_reducible refine' r_eq ?rdA ?_); (case rdA => rfl)) | ((with_reducible refine' r_ne ?rdA ?_); (case rdA => rfl)) | ((with_reducible refine' r_ixT ?rdA ?rdB ?_); (case rdA => (purse 2 => fail)); (case rdB => first | rfl | exact at0 | exact at1 | exact at2 | exact at3)) | ((with_reducible refine' r_ixL ?rdA ?rdB ?_); (case rdA => (purse 2 => fail)); (case rdB => first | rfl | exact at0 | exact at1 | exact at2 | exact at3)) | ((with_reducible refine' r_isiLT ?rdA ?rdB ?_); (case rdA => (purse 2 => fail)); (case rdB => (purse 8 => fail))) | ((with_reducible refine' r_isiLF ?rdA ?rdB ?_); (case rdA => (purse 2 => fail)); (case rdB => (purse 8 => fail))) | ((with_reducible refine' r_isiT ?rdA ?rdB ?_); (case rdA => first | (purse 2 => fail) | constructor); (case rdB => (purse 8 => fail))) | ((with_reducible refine' r_isiF ?rdA ?rdB ?_); (case rdA => first | (purse 2 => fail) | constructor); (case rdB => (purse 8 => fail))) | ((with_reducible refine' r_intb ?_)) | ((with_reducible refine' r_inti ?_)) | ((with_reducible refine' r_abs ?_)) | ((with_reducible refine' r_lenL ?rdA ?_); (case rdA => (purse 2 => fail)); (try simp only [List.length_cons, List.length_nil, List.length_map])) | ((with_reducible refine' r_lenT ?rdA ?_); (case rdA => (purse 2 => fail)); (try simp only [List.length_cons, List.length_nil, List.length_map])) | ((with_reducible refine' r_max2 ?_)) | ((with_reducible refine' r_min2 ?_)) | ((with_reducible refine' r_tup ?_)) | ((with_reducible refine' r_lst ?_)) | ((with_reducible refine' r_small (n := 64) ?rdA ?rdB ?_); (case rdA => (first | decide | (simp only [List.length_cons, List.length_nil]; omega))); (case rdB => decide); intro pN hN) | ((with_reducible refine' r_eqNil0 ?rdA ?rdB ?_); (case rdA => (purse 2 => fail)); (case rdB => (purse 2 => fail))) | ((with_reducible refine' r_eqNil1 ?rdA ?rdB ?rdC ?_); (case rdA => (purse 2 => fail)); (case rdB => (purse 2 => fail)); (case rdC => assumption)) | ((with_reducible refine' r_p2 ?_)) | ((with_reducible refine' r_p3 ?_)) | ((with_reducible refine' r_p4 ?_)) | ((with_reducible refine' r_p5 ?_)) | ((with_reducible refine' r_p6 ?_)) | ((with_reducible refine' r_p7 ?_)) | ((with_reducible refine' r_p8 ?_)) | ((with_reducible refine' r_p9 ?_)) | ((with_reducible refine' r_p10 ?_)) | ((with_reducible refine' r_p12 ?_)) | ((with_reducible refine' r_p15 ?_)) | ((with_reducible refine' r_p16 ?_)) | ((with_reducible refine' r_p17 ?_)) | ((with_reducible refine' r_p18 ?_)) | ((with_reducible refine' s_sub ?_)) | ((with_reducible refine' r_setL ?rdA ?rdB ?_); (case rdA => (purse 3 => fail)); (case rdB => rfl)) | ((with_reducible refine' r_neInts ?rdA ?rdB ?_); (case rdA => (purse 2 => fail)); (case rdB => (purse 2 => fail))) | ((with_reducible refine' r_eqInts ?rdA ?rdB ?_); (case rdA => (purse 2 => fail)); (case rdB => (purse 2 => fail))) | ((with_reducible refine' r_bm ?_)) | ((with_reducible refine' s_for ?_)) | ((with_reducible refine' r_yes ?_)) | ((with_reducible refine' r_tupL ?rdA ?_); (case rdA => (purse 2 => fail)); intro pN hN) | ((with_reducible refine' r_lstL ?rdA ?_); (case rdA => (purse 2 => fail)); intro pN hN) | ((with_reducible refine' r_lstT ?rdA ?_); (case rdA => (purse 2 => fail)); intro pN hN) | ((with_reducible refine' s_lc ?_)) | ((with_reducible refine' i_list ?_)) | ((with_reducible refine' i_tup ?_)) | ((with_reducible refine' i_rng1 ?_)) | ((with_reducible refine' i_rng2 ?_)) | ((with_reducible refine' i_l ?rdA ?_); (case rdA => (purse 2 => fail))) | ((with_reducible refine' i_t ?rdA ?_); (case rdA => (purse 2 => fail))) | ((with_reducible refine' i_r1 ?rdA ?_); (case rdA => first | omega | decide)) | ((with_reducible refine' i_r2 ?rdA ?_); (case rdA => first | omega | decide)) | ((with_reducible refine' r_tyL ?rdA ?_); (case rdA => (purse 3 => fail))) | ((with_reducible refine' r_append ?rdA ?rdB ?_); (case rdA => (purse 3 => fail)); (case rdB => (purse 4 => fail))) | ((with_reducible refine' s_gcons ?_)) | ((with_reducible refine' s_gnil ?_)) | ((with_reducible refine' s_tupT ?rdA ?rdB ?_); (case rdA => (purse 2 => fail)); (case rdB => rfl)) | (purse 99 => fail) | ((with_reducible refine' iteT ?_)) | ((with_reducible refine' iteF ?_)) | ((with_reducible refine' iteNT ?_)) | ((with_reducible refine' iteNF ?_)) | ((with_reducible refine' iteD ?rdA ?_); (case rdA => first | assumption | exact scE1 | exact scE2 | exact scE3 | exact scE4)) | ((with_reducible refine' iteDF ?rdA ?_); (case rdA => first | assumption | exact scE1 | exact scE2 | exact scE3 | exact scE4)) | ((with_reducible refine' iteND ?rdA ?_); (case rdA => first | assumption | exact scE1 | exact scE2 | exact scE3 | exact scE4)) | ((with_reducible refine' iteNDF ?rdA ?_); (case rdA => first | assumption | exact scE1 | exact scE2 | exact scE3 | exact scE4)) | ((with_reducible refine' dec_vint ?_)) | ((with_reducible refine' dec_vintn ?_)) | ((with_reducible refine' ifb ?_ ?_) <;> intro hc <;> (try (exfalso; first | omega | exact hc (by decide +kernel) | exact absurd hc (by decide +kernel)))) | ((with_reducible refine' ifnb ?_ ?_) <;> intro hc <;> (try (exfalso; first | omega | exact hc (by decide +kernel) | exact absurd hc (by decide +kernel)))) | ((with_reducible refine' ifB ?_ ?_) <;> intro hc <;> (try (exfalso; first | omega | exact hc (by decide +kernel) | exact absurd hc (by decide +kernel)))) | ((with_reducible refine' ifNB ?_ ?_) <;> intro hc <;> (try (exfalso; first | omega | exact hc (by decide +kernel) | exact absurd hc (by decide +kernel))))))
local macro_rules | `(tactic| purse 12 => fail) => `(tactic| (repeat' (purse 11 => fail)))
section

section
variable {P : Program} {w : World} {K : PySem.W.Frag} {mg : Str → Option Value} {base : Heap}
theorem ok_is_integer {f : Addr} {fd : FuncData} (F : Fun K "is_integer" "is_integer" s_is_integer f fd) (z_isinstance : mg "isinstance" = none) (z_bool : mg "bool" = none) (z_int : mg "int" = none) :
    FnOk P w K mg base CX0 1 f fd ["value", "low", "high"] (sp_is_integer K) := by
  refine F.ok sc_is_integer (fun vs H Q E h => sp_is_integer_len h) (fun cdv A outer s H vs Q E hr h => ?_)
  obtain ⟨v, lo, hi, d, rfl, hd, k⟩ := h
  refine ⟨_, (pss_one (ps_ret (pe_and (pe_callB (kisi K) (by rfl) z_isinstance (by decide +kernel) (pa_cons (pv 0) (pa_cons (pe_bltn (v := .ty "int") (by rfl) z_int (by decide +kernel) rfl) pa_nil))) (pe_and (pe_not (pe_callB (kisi K) (by rfl) z_isinstance (by decide +kernel) (pa_cons (pv 0) (pa_cons (pe_bltn (v := .ty "bool") (by rfl) z_bool (by decide +kernel) rfl) pa_nil)))) (pe_one (pe_chain op_le op_le (pv 1) (pv 0) (pv 2))))))), ?_⟩
  cases d with
  | int i =>
    cases hd
    (purse 12 => fail)
    all_goals (refine qbl ?_ (k _ (Same.refl _)); simp [isIntD, hc])
  | none => (purse 12 => fail); exact k _ (Same.refl _)
  | bool b => (purse 12 => fail); exact k _ (Same.refl _)
  | str b => (purse 12 => fail); exact k _ (Same.refl _)
  | list b => (purse 12 => fail); exact k _ (Same.refl _)
  | tuple b => (purse 12 => fail); exact k _ (Same.refl _)
  | dict b => cases hd
end
end
section
local macro_rules | `(tactic| purse 99 => fail) => `(tactic| (first | ((with_reducible refine' u_is_integer ?rdA ?_); (case rdA => (purse 2 => fail)); intro H2 h2)))
section
variable {P : Program} {w : World} {K : PySem.W.Frag} {mg : Str → Option Value} {base : Heap}
theorem ok_is_step {f : Addr} {fd : FuncData} (F : Fun K "is_step" "is_step" s_is_step f fd) (c_is_integer : Can P w K mg base 1 "is_integer" ["value", "low", "high"] (sp_is_integer K)) (z_len : mg "len" = none) (z_isinstance : mg "isinstance" = none) (z_str : mg "str" = none) (z_tuple : mg "tuple" = none) (g_OFFSET_BOUND : KInt mg "OFFSET_BOUND" 1000000000) :
    FnOk P w K mg base CX0 2 f fd ["value"] (sp_is_step K) := by
  refine F.ok sc_is_step (fun vs H Q E h => sp_is_step_len h) (fun cdv A outer s H vs Q E hr h => ?_)
  obtain ⟨v, d, rfl, hd, sh, k⟩ := h
  refine ⟨_, (pss_cons (ps_if (PW.pt (pw_or (pt_not (pt_val (pe_callB (kisi K) (by rfl) z_isinstance (by decide +kernel) (pa_cons (pv 0) (pa_cons (pe_bltn (v := .ty "tuple") (by rfl) z_tuple (by decide +kernel) rfl) pa_nil))))) (pw_or (pt_cmpR (keqD K hr.units) (pv 0) (pe_tup pa_nil) (nomark _)) (pw_or1 (pt_not (pt_val (pe_callB (kisi K) (by rfl) z_isinstance (by decide +kernel) (pa_cons (pe_ix (kix_tup K) (pv 0) pe_int (fun _ _ => rfl)) (pa_cons (pe_bltn (v := .ty "str") (by rfl) z_str (by decide +kernel) rfl) pa_nil))))))))) (pss_one (ps_ret pe_bl)) pss_nil) (pss_cons (ps_if (pt_cmpR op_eq (pe_ix (kix_tup K) (pv 0) pe_int (fun _ _ => rfl)) pe_str (nomark _)) (pss_one (ps_ret (pe_and (pe_cmpR op_eq (pe_callB (klen K) (by rfl) z_len (by decide +kernel) (pa_cons (pv 0) pa_nil)) pe_int (nomark _)) (pe_one (pe_can c_is_integer (hr.mono (by decide)) (by rfl) (pa_cons (pe_ix (kix_tup K) (pv 0) pe_int (fun _ _ => rfl)) (pa_cons pe_int (pa_cons pe_int pa_nil)))))))) pss_nil) (pss_cons (ps_if (PW.pt (pw_or (pt_cmpR op_ne (pe_ix (kix_tup K) (pv 0) pe_int (fun _ _ => rfl)) pe_str (nomark _)) (pw_or1 (pt_cmpR op_ne (pe_callB (klen K) (by rfl) z_len (by decide +kernel) (pa_cons (pv 0) pa_nil)) pe_int (nomark _))))) (pss_one (ps_ret pe_bl)) pss_nil) (pss_cons (ps_if (PW.pt (pw_or (pt_not (pt_val (pe_can c_is_integer (hr.mono (by decide)) (by rfl) (pa_cons (pe_ix (kix_tup K) (pv 0) pe_int (fun _ _ => rfl)) (pa_cons pe_int (pa_cons pe_int pa_nil)))))) (pw_or1 (pt_not (pt_val (pe_can c_is_integer (hr.mono (by decide)) (by rfl) (pa_cons (pe_ix (kix_tup K) (pv 0) pe_int (fun _ _ => rfl)) (pa_cons pe_int (pa_cons pe_int pa_nil))))))))) (pss_one (ps_ret pe_bl)) pss_nil) (pss_one (ps_ret (pe_can c_is_integer (hr.mono (by decide)) (by rfl) (pa_cons (pe_ix (kix_tup K) (pv 0) pe_int (fun _ _ => rfl)) (pa_cons (pe_op op_sub pe_int (pe_k (by rfl) g_OFFSET_BOUND)) (pa_cons (pe_k (by rfl) g_OFFSET_BOUND) pa_nil)))))))))), ?_⟩
  cases d with
  | int i => (purse 12 => fail); exact k _ (Same.refl _)
  | none => (purse 12 => fail); exact k _ (Same.refl _)
  | bool b => (purse 12 => fail); exact k _ (Same.refl _)
  | str b => (purse 12 => fail); exact k _ (Same.refl _)
  | list b => (purse 12 => fail); exact k _ (Same.refl _)
  | dict b => cases hd
  | tuple ds =>
    have hd' := hd
    cases hd with
    | tup hS ha =>
      cases ha with
      | nil => (purse 12 => fail); exact k _ (by (purse 1 => fail))
      | @cons v0 vr d0 dr h0 hr =>
        cases d0 with
        | int i => (purse 12 => fail); exact k _ (by (purse 1 => fail))
        | none => (purse 12 => fail); exact k _ (by (purse 1 => fail))
        | bool b => (purse 12 => fail); exact k _ (by (purse 1 => fail))
        | list b => (purse 12 => fail); exact k _ (by (purse 1 => fail))
        | tuple b => (purse 12 => fail); exact k _ (by (purse 1 => fail))
        | dict b => cases h0
        | str t =>
          have h0' := h0
          cases h0
          by_cases te : t = "even"
          · have e1 := decStr te
            cases hr with
            | nil => (purse 12 => fail); exact qbl (by simp [isStepD, te]) (k _ (by (purse 1 => fail)))
            | cons h1 hr =>
              cases hr with
              | nil => (purse 12 => fail); exact qbl (by simp [isStepD, te]) (k _ (by (purse 1 => fail)))
              | cons h2 hr => (purse 12 => fail); exact qbl (by simp [isStepD, te]) (k _ (by (purse 1 => fail)))
          · have e1 := decStrN te
            by_cases ts : t = "scale"
            · have e2 := decStr ts
              cases hr with
              | nil => (purse 12 => fail); exact qbl (by simp [isStepD, te, ts, se_ne]) (k _ (by (purse 1 => fail)))
              | cons h1 hr =>
                cases hr with
                | nil => (purse 12 => fail); exact qbl (by simp [isStepD, te, ts, se_ne]) (k _ (by (purse 1 => fail)))
                | cons h2 hr =>
                  cases hr with
                  | nil => (purse 12 => fail); exact qbl (by simp [isStepD, te, ts, se_ne]) (k _ (by (purse 1 => fail)))
                  | cons h3 hr =>
                    cases hr with
                    | nil =>
                      (purse 12 => fail)
                      all_goals (refine qbl ?_ (k _ (by (purse 1 => fail))); subst ts; simp_all [isStepD, se_ne])
                    | cons h4 hr => (purse 12 => fail); exact qbl (by simp [isStepD, te, ts, se_ne]) (k _ (by (purse 1 => fail)))
            · have e2 := decStrN ts
              (purse 12 => fail); exact qbl (by simp [isStepD, te, ts, se_ne]) (k _ (by (purse 1 => fail)))
end
end
section

section
variable {P : Program} {w : World} {K : PySem.W.Frag} {mg : Str → Option Value} {base : Heap}
theorem ok_step_period {f : Addr} {fd : FuncData} (F : Fun K "step_period" "step_period" s_step_period f fd)  :
    FnOk P w K mg base CX0 1 f fd ["step"] (sp_step_period K) := by
  refine F.ok sc_step_period (fun vs H Q E h => sp_step_period_len h) (fun cdv A outer s H vs Q E hr h => ?_)
  obtain ⟨v, st, rfl, ⟨a, rfl, hS⟩, hp, k⟩ := h
  refine ⟨_, (pss_cons (ps_if (pt_cmpR op_eq (pe_ix (kix_tup K) (pv 0) pe_int (fun _ _ => rfl)) pe_str (nomark _)) (pss_one (ps_ret (pe_tup (pa_cons (pe_ix (kix_tup K) (pv 0) pe_int (fun _ _ => rfl)) (pa_cons (pe_ix (kix_tup K) (pv 0) pe_int (fun _ _ => rfl)) pa_nil))))) pss_nil) (pss_cons (ps_set (i := 1) sc_step_period.nd rfl (Or.inl rfl) (pe_ix (kix_tup K) (pv 0) pe_int (fun _ _ => rfl))) (pss_one (ps_ret (pe_ifExp (pt_cmpR op_eq (pe_op op_mod (pv 1) pe_int) pe_int (nomark _)) (pe_tup (pa_cons (pe_op op_mul pe_int (pv 1)) (pa_cons pe_int pa_nil))) (pe_tup (pa_cons (pv 1) (pa_cons pe_int pa_nil)))))))), ?_⟩
  cases st with
  | sc ks m c =>
    obtain ⟨⟨k1, k2⟩, m1, m2⟩ := hp
    (purse 12 => fail)
    exact k _ _ (by (purse 1 => fail)) SqT.new
  | ev m =>
    obtain ⟨m1, m2⟩ := hp
    (purse 12 => fail)
    · refine k _ _ (by (purse 1 => fail)) ?_
      show SqT K _ _ [.int (if m % 2 = 0 then 2 * m else m), .int (if m % 2 = 0 then 2 else 1)]
      rw [if_pos hc, if_pos hc]; exact SqT.new
    · refine k _ _ (by (purse 1 => fail)) ?_
      show SqT K _ _ [.int (if m % 2 = 0 then 2 * m else m), .int (if m % 2 = 0 then 2 else 1)]
      rw [if_neg hc, if_neg hc]; exact SqT.new
end
end
section
local macro_rules | `(tactic| purse 99 => fail) => `(tactic| (first | ((with_reducible refine' u_step_period ?rdA ?rdB ?_); (case rdA => (purse 2 => fail)); (case rdB => assumption); intro p2 H2 h2 t2) | ((with_reducible refine' u_is_step ?rdA ?rdB ?_); (case rdA => (purse 2 => fail)); (case rdB => assumption); intro H2 h2)))
section
variable {P : Program} {w : World} {K : PySem.W.Frag} {mg : Str → Option Value} {base : Heap}
theorem ok_is_pipeline {f : Addr} {fd : FuncData} (F : Fun K "is_pipeline" "is_pipeline" s_is_pipeline f fd) (c_step_period : Can P w K mg base 1 "step_period" ["step"] (sp_step_period K)) (c_is_step : Can P w K mg base 2 "is_step" ["value"] (sp_is_step K)) (z_all : mg "all" = none) (z_len : mg "len" = none) (z_isinstance : mg "isinstance" = none) (z_tuple : mg "tuple" = none) (g_MAX_PERIOD : KInt mg "MAX_PERIOD" 120) (g_MAX_STEPS : KInt mg "MAX_STEPS" 6) :
    FnOk P w K mg base CX0 3 f fd ["value"] (sp_is_pipeline K) := by
  refine F.ok sc_is_pipeline (fun vs H Q E h => sp_is_pipeline_len h) (fun cdv A outer s H vs Q E hr h => ?_)
  obtain ⟨v, d, rfl, hd, sh, k⟩ := h
  refine ⟨_, (pss_cons (ps_if (PW.pt (pw_or (pt_not (pt_val (pe_callB (kisi K) (by rfl) z_isinstance (by decide +kernel) (pa_cons (pv 0) (pa_cons (pe_bltn (v := .ty "tuple") (by rfl) z_tuple (by decide +kernel) rfl) pa_nil))))) (pw_or (pt_cmpR op_gt (pe_callB (klen K) (by rfl) z_len (by decide +kernel) (pa_cons (pv 0) pa_nil)) (pe_k (by rfl) g_MAX_STEPS) (nomark _)) (pw_or1 (pt_not (pt_val (pe_callB (kall K) (by rfl) z_all (by decide +kernel) (pa_cons (pe_lc (own := [("step", 1)]) (by rfl) sc_is_pipeline.nd (kpi_tup K (pv 0)) (blkOk_by (own := [("step", 1)]) (N := n_is_pipeline) (sc := defScope s_is_pipeline) (by decide +kernel)) (fun _ _ _ _ _ => (pg_name (i := 1) sc_is_pipeline.nd rfl (Or.inl rfl))) (fun _ _ _ _ _ => pts_nil) (fun _ _ _ _ _ => (pe_can c_is_step (hr.mono (by decide)) (by rfl) (pa_cons (pv 1) pa_nil)))) pa_nil)))))))) (pss_one (ps_ret pe_bl)) pss_nil) (pss_cons (ps_set (i := 2) sc_is_pipeline.nd rfl (Or.inl rfl) pe_int) (pss_cons (ps_for PassesOwn.never rfl (kpi_tup K (pv 0)) (pg_name (i := 1) sc_is_pipeline.nd rfl (Or.inl rfl)) (pss_one (ps_set (i := 2) sc_is_pipeline.nd rfl (Or.inl rfl) (pe_op op_mul (pv 2) (pe_ix (kix_tup K) (pe_can c_step_period (hr.mono (by decide)) (by rfl) (pa_cons (pv 1) pa_nil)) pe_int (fun _ _ => rfl)))))) (pss_one (ps_ret (pe_cmpR op_le (pv 2) (pe_k (by rfl) g_MAX_PERIOD) (nomark _))))))), ?_⟩
  cases d with
  | int i => (purse 12 => fail); exact k _ (Same.refl _)
  | none => (purse 12 => fail); exact k _ (Same.refl _)
  | bool b => (purse 12 => fail); exact k _ (Same.refl _)
  | str b => (purse 12 => fail); exact k _ (Same.refl _)
  | list b => (purse 12 => fail); exact k _ (Same.refl _)
  | dict b => cases hd
  | tuple ds =>
    have hd' := hd
    cases hd with
    | tup hS ha =>
      rw [shaped_tup, Bool.and_eq_true, decide_eq_true_eq] at sh
      obtain ⟨sh1, sh2⟩ := sh
      have hl := DpAll.len ha
      (purse 12 => fail)
      · exact qbl (by simp [isPipeD]; omega) (k _ (by (purse 1 => fail)))
      · refine ll_tup (ys := ds.map isStepD) V.bl hS (by simp [hl]) (by rw [List.length_map]; omega) (fun _ => rfl) ?_ ?_
        · intro i x y H' Q' hx hy hs kq
          obtain ⟨d, hd, hdx⟩ := DpAll.get ha hx
          rw [List.getElem?_map, hd] at hy
          cases hy
          (purse 12 => fail)
          exact u_is_step (Dp.same hs hdx) (shaped_mem sh1 sh2 d (List.mem_of_getElem? hd)) fun H4 h4 => kq _ h4
        · intro D H1 hs hD hn
          (purse 12 => fail)
          refine r_all (SqL.of hD) ?_
          (purse 12 => fail)
          · refine qbl ?_ (k _ (by (purse 1 => fail)))
            have e : ds.all isStepD = false := by
              rw [List.all_map] at hc
              simpa using hc
            simp [isPipeD, e]
          · have e : ds.all isStepD = true := by
              rw [List.all_map] at hc
              simpa using hc
            obtain ⟨p, rfl, hp⟩ := steps_of e
            have hx := ofDpAll ha
            refine fl_P (p := p) hS hx (fun i σ' H' => Same H H' ∧ ∃ w, σ' = [some (.ref _), w, some (.int (Pipe.prod (p.take i)))]) ⟨hs, _, rfl⟩ (fun _ _ _ h => .ofSame h.1) ?_ ?_
            · rintro i s v σ' H' hi hm hs' ⟨hH, w, rfl⟩
              have ps := (hp s hm).pos
              obtain ⟨pb1, pb2⟩ := Step.per_pos (hp s hm)
              (purse 12 => fail)
              exact ⟨by (purse 1 => fail), _, by rw [prod_take hi]; rfl⟩
            · rintro σ' H' ⟨hH, w, rfl⟩
              (purse 12 => fail)
              refine qbl ?_ (k _ hH)
              rw [List.take_length]
              simp only [isPipeD, Pipe.prod, e, Bool.and_true, List.map_map]
              have e2 : (perD ∘ Step.data) = Step.per := funext perD_data
              rw [e2]
              rw [List.length_map] at hl
              have e3 : decide ((List.map Step.data p).length ≤ 6) = true := decide_eq_true (by rw [List.length_map]; omega)
              rw [e3]
              simp
              try rfl
end
end
section
local macro_rules | `(tactic| purse 99 => fail) => `(tactic| (first | ((with_reducible refine' u_is_pipelineP ?rdA ?rdB ?_); (case rdA => (purse 2 => fail)); (case rdB => (first | assumption | decide)); intro H2 h2)))
section
variable {P : Program} {w : World} {K : PySem.W.Frag} {mg : Str → Option Value} {base : Heap}
theorem ok_need_pipeline {f : Addr} {fd : FuncData} (F : Fun K "need_pipeline" "need_pipeline" s_need_pipeline f fd) (c_is_pipeline : Can P w K mg base 3 "is_pipeline" ["value"] (sp_is_pipeline K)) :
    FnOk P w K mg base CX0 4 f fd ["value"] (sp_need_pipeline K) := by
  refine F.ok sc_need_pipeline (fun vs H Q E h => sp_need_pipeline_len h) (fun cdv A outer s H vs Q E hr h => ?_)
  obtain ⟨v, p, rfl, hp, ok, k⟩ := h
  refine ⟨_, (pss_one (ps_if (pt_not (pt_val (pe_can c_is_pipeline (hr.mono (by decide)) (by rfl) (pa_cons (pv 0) pa_nil)))) (pss_one ps_never) pss_nil)), ?_⟩
  (purse 12 => fail)
  exact k _ (by (purse 1 => fail))
end
end
section
local macro_rules | `(tactic| purse 99 => fail) => `(tactic| (first | ((with_reducible refine' u_is_integer ?rdA ?_); (case rdA => (purse 2 => fail)); intro H2 h2)))
section
variable {P : Program} {w : World} {K : PySem.W.Frag} {mg : Str → Option Value} {base : Heap}
theorem ok_need_integer {f : Addr} {fd : FuncData} (F : Fun K "need_integer" "need_integer" s_need_integer f fd) (c_is_integer : Can P w K mg base 1 "is_integer" ["value", "low", "high"] (sp_is_integer K)) (g_BOUND : KInt mg "BOUND" 1000000000000000000) :
    FnOk P w K mg base CX0 2 f fd ["value"] (sp_need_integer K) := by
  refine F.ok sc_need_integer (fun vs H Q E h => sp_need_integer_len h) (fun cdv A outer s H vs Q E hr h => ?_)
  obtain ⟨x, rfl, hx, k⟩ := h
  refine ⟨_, (pss_one (ps_if (pt_not (pt_val (pe_can c_is_integer (hr.mono (by decide)) (by rfl) (pa_cons (pv 0) (pa_cons (pe_op op_sub pe_int (pe_k (by rfl) g_BOUND)) (pa_cons (pe_k (by rfl) g_BOUND) pa_nil)))))) (pss_one ps_never) pss_nil)), ?_⟩
  (purse 12 => fail)
  · simp [isIntD] at hc; omega
  · exact k _ (by (purse 1 => fail))
end
end
section

section
variable {P : Program} {w : World} {K : PySem.W.Frag} {mg : Str → Option Value} {base : Heap}
theorem ok_step_value {f : Addr} {fd : FuncData} (F : Fun K "step_value" "step_value" s_step_value f fd) (z_int : mg "int" = none) :
    FnOk P w K mg base CX0 1 f fd ["step", "x"] (sp_step_value K) := by
  refine F.ok sc_step_value (fun vs H Q E h => sp_step_value_len h) (fun cdv A outer s H vs Q E hr h => ?_)
  obtain ⟨v, st, x, rfl, ⟨a, rfl, hS⟩, hp, k⟩ := h
  refine ⟨_, (pss_cons (ps_if (pt_cmpR op_eq (pe_ix (kix_tup K) (pv 0) pe_int (fun _ _ => rfl)) pe_str (nomark _)) (pss_one (ps_ret (pe_op op_fdiv (pe_op op_add (pe_op op_mul (pe_ix (kix_tup K) (pv 0) pe_int (fun _ _ => rfl)) (pv 1)) (pe_ix (kix_tup K) (pv 0) pe_int (fun _ _ => rfl))) (pe_ix (kix_tup K) (pv 0) pe_int (fun _ _ => rfl))))) pss_nil) (pss_cons (ps_set (i := 2) sc_step_value.nd rfl (Or.inl rfl) (pe_ix (kix_tup K) (pv 0) pe_int (fun _ _ => rfl))) (pss_cons (ps_par (i := 3) (j := 4) (by rfl) sc_step_value.nd rfl rfl (by decide) rfl rfl (pa_cons (pe_op op_fdiv (pv 1) (pv 2)) (pa_cons (pe_op op_mod (pv 1) (pv 2)) pa_nil)) (by rfl)) (pss_cons (ps_if (pt_cmpR op_eq (pe_op op_mul pe_int (pv 4)) (pv 2) (nomark _)) (pss_one (ps_ret (pe_op op_add (pv 3) (pe_op op_mod (pv 3) pe_int)))) pss_nil) (pss_one (ps_ret (pe_op op_add (pv 3) (pe_callTy kint1 (by rfl) z_int (by decide +kernel) (pa_cons (pe_cmpR op_gt (pe_op op_mul pe_int (pv 4)) (pv 2) (nomark _)) pa_nil))))))))), ?_⟩
  cases st with
  | sc ks m c =>
    obtain ⟨⟨k1, k2⟩, m1, m2⟩ := hp
    (purse 12 => fail)
    exact k _ (Same.refl _)
  | ev m =>
    obtain ⟨m1, m2⟩ := hp
    (purse 12 => fail)
    · refine qint ?_ (k _ (Same.refl _))
      show _ = if _ then _ else _
      rw [if_pos hc]
    · refine qint ?_ (k _ (Same.refl _))
      show _ = if _ then _ else _
      rw [if_neg hc]
      by_cases h2 : m < 2 * (x % m)
      · rw [if_pos h2, decide_eq_true h2]; rfl
      · rw [if_neg h2, decide_eq_false h2]; rfl
end
end
section
local macro_rules | `(tactic| purse 99 => fail) => `(tactic| (first | ((with_reducible refine' u_step_value ?rdA ?rdB ?_); (case rdA => (purse 2 => fail)); (case rdB => assumption); intro H2 h2)))
section
variable {P : Program} {w : World} {K : PySem.W.Frag} {mg : Str → Option Value} {base : Heap}
theorem ok_value_at {f : Addr} {fd : FuncData} (F : Fun K "value_at" "value_at" s_value_at f fd) (c_step_value : Can P w K mg base 1 "step_value" ["step", "x"] (sp_step_value K)) :
    FnOk P w K mg base CX0 2 f fd ["pipeline", "x"] (sp_value_at K) := by
  refine F.ok sc_value_at (fun vs H Q E h => sp_value_at_len h) (fun cdv A outer s H vs Q E hr h => ?_)
  obtain ⟨v, p, x, rfl, ⟨a, xs, rfl, hS, hx⟩, hp, k⟩ := h
  refine ⟨_, (pss_cons (ps_for PassesOwn.never rfl (kpi_tup K (pv 0)) (pg_name (i := 2) sc_value_at.nd rfl (Or.inl rfl)) (pss_one (ps_set (i := 1) sc_value_at.nd rfl (Or.inl rfl) (pe_can c_step_value (hr.mono (by decide)) (by rfl) (pa_cons (pv 2) (pa_cons (pv 1) pa_nil)))))) (pss_one (ps_ret (pv 1)))), ?_⟩
  (purse 12 => fail)
  refine fl_P (p := p) hS hx (fun i σ' H' => Same H H' ∧ ∃ w, σ' = [some (.ref a), some (.int (Pipe.val (p.take i) x)), w]) ⟨Same.refl _, _, rfl⟩ (fun _ _ _ h => .ofSame h.1) ?_ ?_
  · rintro i s v σ' H' hi hm hs ⟨hH, w, rfl⟩
    (purse 12 => fail)
    refine u_step_value hs (hp s hm) fun H2 h2 => ?_
    (purse 12 => fail)
    exact ⟨hH.trans h2, _, by rw [Pipe.val_take hi]; rfl⟩
  · rintro σ' H' ⟨hH, w, rfl⟩
    (purse 12 => fail)
    refine qint ?_ (k _ hH)
    rw [List.take_length]
end
end
section
local macro_rules | `(tactic| purse 99 => fail) => `(tactic| (first | ((with_reducible refine' u_value_at ?rdA ?rdB ?_); (case rdA => (purse 2 => fail)); (case rdB => (first | assumption | decide)); intro H2 h2) | ((with_reducible refine' u_need_integer ?rdA ?_); (case rdA => (first | assumption | omega | (constructor <;> omega))); intro H2 h2) | ((with_reducible refine' u_need_pipeline ?rdA ?rdB ?_); (case rdA => (purse 2 => fail)); (case rdB => (first | assumption | decide)); intro H2 h2)))
section
variable {P : Program} {w : World} {K : PySem.W.Frag} {mg : Str → Option Value} {base : Heap}
theorem ok_apply {f : Addr} {fd : FuncData} (F : Fun K "apply" "apply" s_apply f fd) (c_value_at : Can P w K mg base 2 "value_at" ["pipeline", "x"] (sp_value_at K)) (c_need_integer : Can P w K mg base 2 "need_integer" ["value"] (sp_need_integer K)) (c_need_pipeline : Can P w K mg base 4 "need_pipeline" ["value"] (sp_need_pipeline K)) :
    FnOk P w K mg base CX0 5 f fd ["pipeline", "x"] (sp_apply K) := by
  refine F.ok sc_apply (fun vs H Q E h => sp_apply_len h) (fun cdv A outer s H vs Q E hr h => ?_)
  obtain ⟨v, p, x, rfl, hp, ok, b, k⟩ := h
  have ps := ok.pos
  refine ⟨_, (pss_cons (ps_expr (pe_can c_need_pipeline (hr.mono (by decide)) (by rfl) (pa_cons (pv 0) pa_nil))) (pss_cons (ps_expr (pe_can c_need_integer (hr.mono (by decide)) (by rfl) (pa_cons (pv 1) pa_nil))) (pss_one (ps_ret (pe_can c_value_at (hr.mono (by decide)) (by rfl) (pa_cons (pv 0) (pa_cons (pv 1) pa_nil))))))), ?_⟩
  (purse 12 => fail)
  exact k _ (by (purse 1 => fail))
end
end
section
local macro_rules | `(tactic| purse 99 => fail) => `(tactic| (first | ((with_reducible refine' u_step_value ?rdA ?rdB ?_); (case rdA => (purse 2 => fail)); (case rdB => assumption); intro H2 h2) | ((with_reducible refine' u_need_integer ?rdA ?_); (case rdA => (first | assumption | omega | (constructor <;> omega))); intro H2 h2) | ((with_reducible refine' u_need_pipeline ?rdA ?rdB ?_); (case rdA => (purse 2 => fail)); (case rdB => (first | assumption | decide)); intro H2 h2)))
section
variable {P : Program} {w : World} {K : PySem.W.Frag} {mg : Str → Option Value} {base : Heap}
theorem ok_trace {f : Addr} {fd : FuncData} (F : Fun K "trace" "trace" s_trace f fd) (c_step_value : Can P w K mg base 1 "step_value" ["step", "x"] (sp_step_value K)) (c_need_integer : Can P w K mg base 2 "need_integer" ["value"] (sp_need_integer K)) (c_need_pipeline : Can P w K mg base 4 "need_pipeline" ["value"] (sp_need_pipeline K)) :
    FnOk P w K mg base CX0 5 f fd ["pipeline", "x"] (sp_trace K) := by
  refine F.ok sc_trace (fun vs H Q E h => sp_trace_len h) (fun cdv A outer s H vs Q E hr h => ?_)
  obtain ⟨v, p, x, rfl, ⟨a, xs, rfl, hS, hx⟩, ok, b, k⟩ := h
  have ps := ok.pos
  have hP : PipeAt K H (.ref a) p := ⟨a, xs, rfl, hS, hx⟩
  have hl := ok.1
  refine ⟨_, (pss_cons (ps_expr (pe_can c_need_pipeline (hr.mono (by decide)) (by rfl) (pa_cons (pv 0) pa_nil))) (pss_cons (ps_expr (pe_can c_need_integer (hr.mono (by decide)) (by rfl) (pa_cons (pv 1) pa_nil))) (pss_cons (ps_set (i := 2) sc_trace.nd rfl (Or.inl rfl) (pe_lst pa_nil)) (pss_cons (ps_for PassesOwn.never rfl (kpi_tup K (pv 0)) (pg_name (i := 3) sc_trace.nd rfl (Or.inl rfl)) (pss_cons (ps_set (i := 1) sc_trace.nd rfl (Or.inl rfl) (pe_can c_step_value (hr.mono (by decide)) (by rfl) (pa_cons (pv 3) (pa_cons (pv 1) pa_nil)))) (pss_one (ps_expr (pe_bm PySem.F.plainAttrs_list PySem.F.slot_list_append PySem.F.type_list_append mt_append (pv 2) (pa_cons (pv 1) pa_nil)))))) (pss_one (ps_ret (pv 2))))))), ?_⟩
  (purse 12 => fail)
  have nN : H pN = none := Same.free (by (purse 1 => fail)) hN
  refine fl_P (p := p) hS hx (fun i σ' H' => Same H H' ∧ H' pN = some (.lst ((Pipe.trace (p.take i) x).map V.int)) ∧ ∃ w, σ' = [some (.ref a), some (.int (Pipe.val (p.take i) x)), some (.ref pN), w]) ⟨by (purse 1 => fail), upd_same, _, rfl⟩ (fun _ _ _ h => .ofSame h.1) ?_ ?_
  · rintro i s v σ' H' hi hm hs ⟨hH, hp', w, rfl⟩
    have ps' := ps s hm
    have hlt : (Pipe.trace (p.take i) x).length ≤ 6 := by rw [Pipe.trace_length, List.length_take]; omega
    (purse 12 => fail)
    refine ⟨by (purse 1 => fail), ?_, _, by rw [Pipe.val_take hi]; rfl⟩
    rw [upd_same, Pipe.trace_take hi, List.map_append]; rfl
  · rintro σ' H' ⟨hH, hp', w, rfl⟩
    (purse 12 => fail)
    refine k _ _ hH nN ?_
    rw [hp', List.take_length]
end
end
section

section
variable {P : Program} {w : World} {K : PySem.W.Frag} {mg : Str → Option Value} {base : Heap}
theorem ok_law_cell_at {f : Addr} {fd : FuncData} (F : Fun K "_law_cell_at" "_law_cell_at" s_law_cell_at f fd) (z_len : mg "len" = none) :
    FnOk P w K mg base CX0 1 f fd ["script", "k"] (sp_law_cell_at K) := by
  refine F.ok sc_law_cell_at (fun vs H Q E h => sp_law_cell_at_len h) (fun cdv A outer s H vs Q E hr h => ?_)
  obtain ⟨a, ns, x, rfl, hS, b, k⟩ := h
  refine ⟨_, (pss_cons (ps_if (pt_cmpR op_lt (pv 1) (pe_callB (klen K) (by rfl) z_len (by decide +kernel) (pa_cons (pv 0) pa_nil)) (nomark _)) (pss_one (ps_ret (pe_ix (kix_list K) (pv 0) (pv 1) (fun _ _ => rfl)))) pss_nil) (pss_one (ps_ret pe_int))), ?_⟩
  (purse 12 => fail)
  · have hi : x.toNat < ns.length := by omega
    refine r_ixL hS (v := .int ns[x.toNat]) (at_of (j := x.toNat) (by omega) (by rw [List.getElem?_map, List.getElem?_eq_getElem hi]; rfl)) ?_
    exact k _ _ (Same.refl _)
  · exact k _ _ (Same.refl _)
end
end
section

section
variable {P : Program} {w : World} {K : PySem.W.Frag} {mg : Str → Option Value} {base : Heap}
theorem ok_law_draws {f : Addr} {fd : FuncData} (F : Fun K "_law_draws" "_law_draws" s_law_draws f fd) (z_range : mg "range" = none) (z_int : mg "int" = none) :
    FnOk P w K mg base CX0 1 f fd ["cell", "many", "size"] (sp_law_draws K) := by
  refine F.ok sc_law_draws (fun vs H Q E h => sp_law_draws_len h) (fun cdv A outer s H vs Q E hr h => ?_)
  obtain ⟨c, rfl, k⟩ := h
  refine ⟨_, (pss_cons (ps_set (i := 3) sc_law_draws.nd rfl (Or.inl rfl) (pe_lst pa_nil)) (pss_cons (ps_set (i := 4) sc_law_draws.nd rfl (Or.inl rfl) (pe_op op_mul (pv 0) (pe_callTy kint1 (by rfl) z_int (by decide +kernel) (pa_cons (pe_cmpR op_ge (pv 0) (pe_op op_pow pe_int pe_int) (nomark _)) pa_nil)))) (pss_cons (ps_set (i := 5) sc_law_draws.nd rfl (Or.inl rfl) (pe_op op_mod (pv 0) pe_int)) (pss_cons (ps_for PassesOwn.never rfl (pi_range1 (by rfl) z_range (pa_cons (pe_op op_add (pv 1) pe_int) pa_nil)) (pg_name (i := 6) sc_law_draws.nd rfl (Or.inl rfl)) (pss_cons (ps_set (i := 5) sc_law_draws.nd rfl (Or.inl rfl) (pe_op op_mod (pe_op op_add (pe_op op_add (pe_op op_add (pe_op op_mul (pv 5) (pv 5)) (pe_op op_mul pe_int (pv 5))) (pv 6)) pe_int) pe_int)) (pss_one (ps_if (PW.pt (pw_and (pt_cmpR op_gt (pv 6) pe_int (nomark _)) (pw_and1 (pt_cmpR op_gt (pv 4) pe_int (nomark _))))) (pss_cons (ps_expr (pe_bm PySem.F.plainAttrs_list PySem.F.slot_list_append PySem.F.type_list_append mt_append (pv 3) (pa_cons (pe_op op_mod (pv 4) (pv 2)) pa_nil))) (pss_one (ps_set (i := 4) sc_law_draws.nd rfl (Or.inl rfl) (pe_op op_fdiv (pv 4) (pv 2))))) (pss_one (ps_if (pt_cmpR op_gt (pv 6) pe_int (nomark _)) (pss_one (ps_expr (pe_bm PySem.F.plainAttrs_list PySem.F.slot_list_append PySem.F.type_list_append mt_append (pv 3) (pa_cons (pe_op op_mod (pe_op op_fdiv (pv 5) pe_int) (pv 2)) pa_nil)))) pss_nil)))))) (pss_one (ps_ret (pv 3))))))), ?_⟩
  (purse 12 => fail)
  refine fl_range (fun i σ' H' => Same H H' ∧ ∃ (acc : List Int) (r st : Int) (w : Option V), H' pN = some (.lst (acc.map V.int)) ∧ acc.length = i - 3 ∧ (∀ z ∈ acc, 0 ≤ z) ∧ 0 ≤ st ∧ st < 2305843009213693951 ∧
    σ' = [some (.int c), some (.int 400), some (.int 1000), some (.ref pN), some (.int r), some (.int st), w]) ?_ ?_ ?_
  · exact ⟨by (purse 1 => fail), [], _, _, _, upd_same, rfl, by simp, Int.emod_nonneg _ (by decide), Int.emod_lt_of_pos _ (by decide), rfl⟩
  · rintro i σ' H' hi ⟨hS, acc, r, st, w, hp, hl, hz, s0, s1, rfl⟩
    have hi' : i < 403 := hi
    have n1 := Int.emod_nonneg (st * st + 48271 * st + (0 + (i : Int)) + 1) (b := 2305843009213693951) (by decide)
    have n2 := Int.emod_lt_of_pos (st * st + 48271 * st + (0 + (i : Int)) + 1) (b := 2305843009213693951) (by decide)
    (purse 12 => fail)
    · refine ⟨by (purse 1 => fail), acc ++ [r % 1000], _, _, _, ?_, ?_, ?_, n1, n2, rfl⟩
      · rw [upd_same, List.map_append]; rfl
      · rw [List.length_append, List.length_singleton]; omega
      · intro z hz'
        rcases List.mem_append.mp hz' with h | h
        · exact hz z h
        · rw [List.mem_singleton.mp h]; exact Int.emod_nonneg _ (by decide)
    · refine ⟨by (purse 1 => fail), acc ++ [(st * st + 48271 * st + (0 + (i : Int)) + 1) % 2305843009213693951 / 4096 % 1000], _, _, _, ?_, ?_, ?_, n1, n2, rfl⟩
      · rw [upd_same, List.map_append]; rfl
      · rw [List.length_append, List.length_singleton]; omega
      · intro z hz'
        rcases List.mem_append.mp hz' with h | h
        · exact hz z h
        · rw [List.mem_singleton.mp h]; exact Int.emod_nonneg _ (by decide)
    · exact ⟨hS, acc, _, _, _, hp, by omega, hz, n1, n2, rfl⟩
  · rintro σ' H' ⟨hS, acc, r, st, w, hp, hl, hz, s0, s1, rfl⟩
    (purse 12 => fail)
    exact k _ acc _ hS hN hp (by rw [hl]; rfl) hz
end
end
section
local macro_rules | `(tactic| purse 99 => fail) => `(tactic| (first | ((with_reducible refine' u_law_draws ?_); intro q2 ds2 H2 h2 n2 l2 e2 b2) | ((with_reducible refine' u_law_cell_at ?rdA ?rdB ?_); (case rdA => (purse 2 => fail)); (case rdB => omega); intro r2 H2 h2)))
section
variable {P : Program} {w : World} {K : PySem.W.Frag} {mg : Str → Option Value} {base : Heap}
theorem ok_law_bag {f : Addr} {fd : FuncData} (F : Fun K "_law_bag" "_law_bag" s_law_bag f fd) (c__law_draws : Can P w K mg base 1 "_law_draws" ["cell", "many", "size"] (sp_law_draws K)) (c__law_cell_at : Can P w K mg base 1 "_law_cell_at" ["script", "k"] (sp_law_cell_at K)) :
    FnOk P w K mg base CX0 2 f fd ["script", "k"] (sp_law_bag K) := by
  refine F.ok sc_law_bag (fun vs H Q E h => sp_law_bag_len h) (fun cdv A outer s H vs Q E hr h => ?_)
  obtain ⟨a, ns, x, rfl, hS, b, k⟩ := h
  refine ⟨_, (pss_one (ps_ret (pe_lst (pa_cons (pe_can c__law_draws (hr.mono (by decide)) (by rfl) (pa_cons (pe_can c__law_cell_at (hr.mono (by decide)) (by rfl) (pa_cons (pv 0) (pa_cons (pv 1) pa_nil))) (pa_cons pe_int (pa_cons pe_int pa_nil)))) (pa_cons pe_int pa_nil))))), ?_⟩
  (purse 12 => fail)
  have nb : q2 ≠ pN := ne_of_none l2 hN
  refine k _ q2 _ (by (purse 1 => fail)) (Same.free (by (purse 1 => fail)) hN) (Same.free (by (purse 1 => fail)) n2) ⟨nb, 0, ds2, upd_same, by (purse 3 => fail), e2, b2, Int.le_refl _⟩
end
end
section
local macro_rules | `(tactic| purse 99 => fail) => `(tactic| (first | ((with_reducible refine' u_law_bag ?rdA ?rdB ?_); (case rdA => (purse 2 => fail)); (case rdB => omega); intro b2 d2 H2 h2 n2 nd0 bg2)))
section
variable {P : Program} {w : World} {K : PySem.W.Frag} {mg : Str → Option Value} {base : Heap}
theorem ok_law_bags {f : Addr} {fd : FuncData} (F : Fun K "_law_bags" "_law_bags" s_law_bags f fd) (c__law_bag : Can P w K mg base 2 "_law_bag" ["script", "k"] (sp_law_bag K)) (z_range : mg "range" = none) (z_max : mg "max" = none) (z_min : mg "min" = none) (z_len : mg "len" = none) :
    FnOk P w K mg base CX0 3 f fd ["script", "limit"] (sp_law_bags K) := by
  refine F.ok sc_law_bags (fun vs H Q E h => sp_law_bags_len h) (fun cdv A outer s H vs Q E hr h => ?_)
  obtain ⟨a, ns, x, rfl, hS, b, k⟩ := h
  refine ⟨_, (pss_one (ps_ret (pe_lc (own := [("k", 2)]) (by rfl) sc_law_bags.nd (pi_range1 (by rfl) z_range (pa_cons (pe_callB kmax2 (by rfl) z_max (by decide +kernel) (pa_cons pe_int (pa_cons (pe_callB kmin2 (by rfl) z_min (by decide +kernel) (pa_cons (pv 1) (pa_cons (pe_callB (klen K) (by rfl) z_len (by decide +kernel) (pa_cons (pv 0) pa_nil)) pa_nil))) pa_nil))) pa_nil)) (blkOk_by (own := [("k", 2)]) (N := n_law_bags) (sc := defScope s_law_bags) (by decide +kernel)) (fun _ _ _ _ _ => (pg_name (i := 2) sc_law_bags.nd rfl (Or.inl rfl))) (fun _ _ _ _ _ => pts_nil) (fun _ _ _ _ _ => (pe_can c__law_bag (hr.mono (by decide)) (by rfl) (pa_cons (pv 0) (pa_cons (pv 2) pa_nil))))))), ?_⟩
  (purse 12 => fail)
  generalize hn : (if (if (ns.length : Int) < x then (ns.length : Int) else x) > 1 then if (ns.length : Int) < x then (ns.length : Int) else x else 1).toNat = n
  have hn10 : n ≤ 10 := by omega
  refine fun D hD => lc_range (lo := 0) (n := n) (fun i H' => ∃ bs : List (Addr × Addr), bs.length = i ∧ Same H H' ∧ BagsAt H' D bs ∧ (∀ p ∈ bs, D ≠ p.2)) ?_ ?_ ?_
  · exact ⟨[], rfl, Same.up (Same.refl _) hD, ⟨upd_same, by simp, List.Pairwise.nil, by simp⟩, by simp⟩
  · rintro i H' hi ⟨bs, hbl, hS', ⟨b1, b2', b3, b4⟩, hf⟩
    refine ⟨rfl, ?_⟩
    (purse 12 => fail)
    have nb : D ≠ b2 := ne_of_none b1 n2
    have nd : D ≠ d2 := ne_of_none b1 nd0
    refine ⟨_, by (purse 3 => fail), ?_, bs ++ [(b2, d2)], by rw [List.length_append, hbl]; rfl, by (purse 1 => fail), ⟨?_, ?_, ?_, ?_⟩, ?_⟩
    · exact sz_lt (by rw [List.length_map]; omega)
    · rw [upd_same, List.map_append]; rfl
    · intro p hp
      rcases List.mem_append.mp hp with h | h
      · exact ((b2' p h).hs h2).hn (b4 p h) (hf p h)
      · rw [List.mem_singleton.mp h]
        exact bg2.hn nb nd
    · rw [List.pairwise_append]
      refine ⟨b3, List.pairwise_singleton _ _, fun p hp r hr => ?_⟩
      rw [List.mem_singleton.mp hr]
      exact ⟨(b2' p hp).neb n2, (b2' p hp).neb nd0⟩
    · intro p hp
      rcases List.mem_append.mp hp with h | h
      · exact b4 p h
      · rw [List.mem_singleton.mp h]; exact nb
    · intro p hp
      rcases List.mem_append.mp hp with h | h
      · exact hf p h
      · rw [List.mem_singleton.mp h]; exact nd
  · rintro H' ⟨bs, hbl, hS', hb, hf⟩
    exact k _ bs _ hS' hD hb
end
end
section

section
variable {P : Program} {w : World} {K : PySem.W.Frag} {mg : Str → Option Value} {base : Heap}
theorem ok_law_take {f : Addr} {fd : FuncData} (F : Fun K "_law_take" "_law_take" s_law_take f fd) (z_len : mg "len" = none) :
    FnOk P w K mg base CX0 1 f fd ["bag", "many"] (sp_law_take K) := by
  refine F.ok sc_law_take (fun vs H Q E h => sp_law_take_len h) (fun cdv A outer s H vs Q E hr h => ?_)
  obtain ⟨b, d, m, rfl, ⟨ne, n, ds, hb, hd, hl, hz, hn⟩, hm, k⟩ := h
  refine ⟨_, (pss_cons (ps_asg (pe_op op_add (pe_ix (kix_list K) (pv 0) pe_int (fun _ _ => rfl)) pe_int) (pg_sub (pv 0) pe_int set_list)) (pss_one (ps_ret (pe_op op_mod (pe_ix (kix_list K) (pe_ix (kix_list K) (pv 0) pe_int (fun _ _ => rfl)) (pe_op op_mod (pe_ix (kix_list K) (pv 0) pe_int (fun _ _ => rfl)) (pe_callB (klen K) (by rfl) z_len (by decide +kernel) (pa_cons (pe_ix (kix_list K) (pv 0) pe_int (fun _ _ => rfl)) pa_nil))) (fun _ _ => rfl)) (pv 1))))), ?_⟩
  have hB : SqL K H b [.ref d, .int n] := SqL.of hb
  have hd1 : L2.upd H b (HO.lst ([V.ref d, V.int n].set (Int.toNat 1) (V.int (n + 1)))) d = some (.lst (ds.map V.int)) := HAt.hn ne hd
  (purse 12 => fail)
  have m1 := Int.emod_nonneg (n + 1) (b := (ds.length : Int)) (by omega)
  have m2 := Int.emod_lt_of_pos (n + 1) (b := (ds.length : Int)) (by omega)
  have hi : ((n + 1) % (ds.length : Int)).toNat < ds.length := by omega
  refine r_ixL (SqL.of hd1) (v := .int ds[((n + 1) % (ds.length : Int)).toNat]) (at_of (j := ((n + 1) % (ds.length : Int)).toNat) (by omega) (by rw [List.getElem?_map, List.getElem?_eq_getElem hi]; rfl)) ?_
  (purse 12 => fail)
  refine k _ _ ⟨fun a o na e => HAt.hn na e, (TKeep.refl).upL hb, ⟨ne, n + 1, ds, upd_same, hd1, hl, hz, by omega⟩⟩ (Int.emod_nonneg _ (by omega)) (Int.emod_lt_of_pos _ hm)
end
end
section
local macro_rules | `(tactic| purse 99 => fail) => `(tactic| (first | ((with_reducible refine' u_law_take (K := K) ?rdA ?rdB ?_); (case rdA => (purse 2 => fail)); (case rdB => omega); intro r2 H2 h2 r2l r2u)))
section
variable {P : Program} {w : World} {K : PySem.W.Frag} {mg : Str → Option Value} {base : Heap}
theorem ok_law_far_draw {f : Addr} {fd : FuncData} (F : Fun K "_law_far_draw" "_law_far_draw" s_law_far_draw f fd) (c__law_take : Can P w K mg base 1 "_law_take" ["bag", "many"] (sp_law_take K)) :
    FnOk P w K mg base CX0 2 f fd ["bag", "many"] (sp_law_far_draw K) := by
  refine F.ok sc_law_far_draw (fun vs H Q E h => sp_law_far_draw_len h) (fun cdv A outer s H vs Q E hr h => ?_)
  obtain ⟨b, d, m, rfl, hb, hm, k⟩ := h
  refine ⟨_, (pss_cons (ps_par (i := 2) (j := 3) (by rfl) sc_law_far_draw.nd rfl rfl (by decide) rfl rfl (pa_cons pe_int (pa_cons (pv 1) pa_nil)) (by rfl)) (pss_cons (ps_while PassesOwn.never (pt_cmpR op_gt (pv 3) pe_int (nomark _)) (pss_one (ps_par (i := 2) (j := 3) (by rfl) sc_law_far_draw.nd rfl rfl (by decide) rfl rfl (pa_cons (pe_op op_add (pe_op op_mul pe_int (pv 2)) (pe_can c__law_take (hr.mono (by decide)) (by rfl) (pa_cons (pv 0) (pa_cons pe_int pa_nil)))) (pa_cons (pe_op op_fdiv (pv 3) pe_int) pa_nil)) (by rfl)))) (pss_one (ps_ret (pe_ix (kix_list K) (pe_lst (pa_cons (pe_op op_mod (pv 2) (pv 1)) (pa_cons pe_int (pa_cons (pe_op op_sub (pv 1) pe_int) (pa_cons (pe_op op_mod (pv 2) (pv 1)) pa_nil))))) (pe_can c__law_take (hr.mono (by decide)) (by rfl) (pa_cons (pv 0) (pa_cons pe_int pa_nil))) (fun _ _ => rfl)))))), ?_⟩
  (purse 12 => fail)
  refine s_while (fun n σ' H' => Bs K b d H H' ∧ ∃ f u : Int, n = u.toNat ∧ σ' = [some (.ref b), some (.int m), some (.int f), some (.int u)]) _ ⟨Bs.refl hb, _, _, rfl, rfl⟩ ?_
  rintro n σ' H' ⟨hB, f, u, rfl, rfl⟩
  have hb' := hB.bag
  (purse 12 => fail)
  · refine ⟨fun σ3 H3 => Bs K b d H H3 ∧ ∃ f3 : Int, σ3 = [some (.ref b), some (.int m), some (.int f3), some (.int (u / 1000))], ?_, ?_⟩
    · rintro σ3 H3 ⟨h3, f3, rfl⟩
      exact ⟨(u / 1000).toNat, by omega, h3, f3, _, rfl, rfl⟩
    · (purse 12 => fail)
      exact ⟨by (purse 6 => fail), _, rfl⟩
  · have fm := emod_b (x := f) hm
    (purse 12 => fail)
    obtain ⟨z, hz, z0, z1⟩ := pick4 r2l r2u (lo := 0) (hi := m - 1) (a := f % m) (b := 0) (c := m - 1) (e := f % m) (by omega) (by omega) (by omega) (by omega)
    refine r_ixL (by (purse 2 => fail)) hz ?_
    exact k _ _ (by (purse 6 => fail)) (by omega) (by omega)
end
end
section

section
variable {P : Program} {w : World} {K : PySem.W.Frag} {mg : Str → Option Value} {base : Heap}
theorem ok_law_step_period {f : Addr} {fd : FuncData} (F : Fun K "_law_step_period" "_law_step_period" s_law_step_period f fd)  :
    FnOk P w K mg base CX0 1 f fd ["step"] (sp_law_step_period K) := by
  refine F.ok sc_law_step_period (fun vs H Q E h => sp_law_step_period_len h) (fun cdv A outer s H vs Q E hr h => ?_)
  obtain ⟨v, st, rfl, ⟨a, rfl, hS⟩, hp, k⟩ := h
  refine ⟨_, (pss_cons (ps_if (pt_cmpR op_eq (pe_ix (kix_tup K) (pv 0) pe_int (fun _ _ => rfl)) pe_str (nomark _)) (pss_one (ps_ret (pe_ix (kix_tup K) (pv 0) pe_int (fun _ _ => rfl)))) pss_nil) (pss_one (ps_ret (pe_ifExp (pt_cmpR op_eq (pe_op op_mod (pe_ix (kix_tup K) (pv 0) pe_int (fun _ _ => rfl)) pe_int) pe_int (nomark _)) (pe_op op_mul pe_int (pe_ix (kix_tup K) (pv 0) pe_int (fun _ _ => rfl))) (pe_ix (kix_tup K) (pv 0) pe_int (fun _ _ => rfl)))))), ?_⟩
  cases st with
  | sc ks m c =>
    (purse 12 => fail)
    exact k _ (by (purse 1 => fail))
  | ev m =>
    (purse 12 => fail)
    · exact qint (by simp [Step.per, hc]) (k _ (by (purse 1 => fail)))
    · exact qint (by simp [Step.per, hc]) (k _ (by (purse 1 => fail)))
end
end
section
local macro_rules | `(tactic| purse 99 => fail) => `(tactic| (first | ((with_reducible refine' u_law_take (K := K) ?rdA ?rdB ?_); (case rdA => (purse 2 => fail)); (case rdB => omega); intro r2 H2 h2 r2l r2u) | ((with_reducible refine' u_law_far_draw (K := K) ?rdA ?rdB ?_); (case rdA => (purse 2 => fail)); (case rdB => omega); intro r2 H2 h2 r2l r2u)))
section
variable {P : Program} {w : World} {K : PySem.W.Frag} {mg : Str → Option Value} {base : Heap}
theorem ok_law_step {f : Addr} {fd : FuncData} (F : Fun K "_law_step" "_law_step" s_law_step f fd) (c__law_take : Can P w K mg base 1 "_law_take" ["bag", "many"] (sp_law_take K)) (c__law_far_draw : Can P w K mg base 2 "_law_far_draw" ["bag", "many"] (sp_law_far_draw K)) (z_min : mg "min" = none) :
    FnOk P w K mg base CX0 3 f fd ["bag", "limit"] (sp_law_step K) := by
  refine F.ok sc_law_step (fun vs H Q E h => sp_law_step_len h) (fun cdv A outer s H vs Q E hr h => ?_)
  obtain ⟨b, d, l, rfl, hb, hl, k⟩ := h
  refine ⟨_, (pss_cons (ps_if (PW.pt (pw_and (pt_cmpR op_eq (pe_can c__law_take (hr.mono (by decide)) (by rfl) (pa_cons (pv 0) (pa_cons pe_int pa_nil))) pe_int (nomark _)) (pw_and1 (pt_cmpR op_gt (pv 1) pe_int (nomark _))))) (pss_cons (ps_set (i := 2) sc_law_step.nd rfl (Or.inl rfl) (pe_op op_add pe_int (pe_can c__law_take (hr.mono (by decide)) (by rfl) (pa_cons (pv 0) (pa_cons (pe_callB kmin2 (by rfl) z_min (by decide +kernel) (pa_cons (pv 1) (pa_cons pe_int pa_nil))) pa_nil))))) (pss_one (ps_ret (pe_tup (pa_cons pe_str (pa_cons (pe_ifExp (PW.pt (pw_or (pt_cmpR op_eq (pe_op op_mod (pv 2) pe_int) pe_int (nomark _)) (pw_or1 (pt_cmpR op_le (pe_op op_mul pe_int (pv 2)) (pv 1) (nomark _))))) (pv 2) (pe_op op_fdiv (pv 2) pe_int)) pa_nil)))))) pss_nil) (pss_cons (ps_set (i := 3) sc_law_step.nd rfl (Or.inl rfl) (pe_op op_add pe_int (pe_can c__law_take (hr.mono (by decide)) (by rfl) (pa_cons (pv 0) (pa_cons (pe_ix (kix_list K) (pe_lst (pa_cons pe_int (pa_cons pe_int (pa_cons pe_int pa_nil)))) (pe_can c__law_take (hr.mono (by decide)) (by rfl) (pa_cons (pv 0) (pa_cons pe_int pa_nil))) (fun _ _ => rfl)) pa_nil))))) (pss_cons (ps_set (i := 2) sc_law_step.nd rfl (Or.inl rfl) (pe_op op_add pe_int (pe_can c__law_take (hr.mono (by decide)) (by rfl) (pa_cons (pv 0) (pa_cons (pe_callB kmin2 (by rfl) z_min (by decide +kernel) (pa_cons (pv 1) (pa_cons (pe_ix (kix_list K) (pe_lst (pa_cons pe_int (pa_cons pe_int (pa_cons pe_int pa_nil)))) (pe_can c__law_take (hr.mono (by decide)) (by rfl) (pa_cons (pv 0) (pa_cons pe_int pa_nil))) (fun _ _ => rfl)) pa_nil))) pa_nil))))) (pss_cons (ps_set (i := 4) sc_law_step.nd rfl (Or.inl rfl) (pe_op op_sub (pe_can c__law_far_draw (hr.mono (by decide)) (by rfl) (pa_cons (pv 0) (pa_cons (pe_op op_add (pe_op op_mul pe_int (pe_op op_pow pe_int pe_int)) pe_int) pa_nil))) (pe_op op_pow pe_int pe_int))) (pss_cons (ps_set (i := 5) sc_law_step.nd rfl (Or.inl rfl) (pe_ix (kix_list K) (pe_lst (pa_cons pe_int (pa_cons (pe_can c__law_take (hr.mono (by decide)) (by rfl) (pa_cons (pv 0) (pa_cons pe_int pa_nil))) (pa_cons (pe_op op_sub (pe_can c__law_take (hr.mono (by decide)) (by rfl) (pa_cons (pv 0) (pa_cons pe_int pa_nil))) pe_int) (pa_cons (pv 4) pa_nil))))) (pe_can c__law_take (hr.mono (by decide)) (by rfl) (pa_cons (pv 0) (pa_cons pe_int pa_nil))) (fun _ _ => rfl))) (pss_one (ps_ret (pe_tup (pa_cons pe_str (pa_cons (pv 3) (pa_cons (pv 2) (pa_cons (pv 5) pa_nil)))))))))))), ?_⟩
  (purse 12 => fail)
  · refine k _ (.ev _) _ (by (purse 6 => fail)) ⟨_, rfl, SqT.new⟩ ⟨by omega, by omega⟩ (fun _ _ _ z => nomatch z)
  · refine k _ (.ev _) _ (by (purse 6 => fail)) ⟨_, rfl, SqT.new⟩ ⟨by omega, by omega⟩ (fun _ _ _ z => nomatch z)
  · refine k _ (.ev _) _ (by (purse 6 => fail)) ⟨_, rfl, SqT.new⟩ ⟨by omega, by omega⟩ (fun _ _ _ z => nomatch z)
  all_goals
    refine r_pick3 (lo := 1) (hi := 120) (by (purse 2 => fail)) r2l r2u (by omega) (by omega) (by omega) fun z z0 z1 => ?_
    (purse 12 => fail)
    refine r_pick3 (lo := 1) (hi := 120) (by (purse 2 => fail)) r2l r2u (by omega) (by omega) (by omega) fun z' z0' z1' => ?_
    (purse 12 => fail)
    refine r_pick4 (lo := -1000000000) (hi := 1000000000) (by (purse 2 => fail)) r2l r2u (by omega) (by omega) (by omega) (by omega) fun c c0 c1 => ?_
    (purse 12 => fail)
    exact k _ (.sc _ _ _) _ (by (purse 6 => fail)) ⟨_, rfl, SqT.new⟩ ⟨⟨by omega, by omega⟩, ⟨by omega, by omega⟩, ⟨by omega, by omega⟩⟩ (by intro k m c e; cases e; omega)
end
end
section
local macro_rules | `(tactic| purse 99 => fail) => `(tactic| (first | ((with_reducible refine' u_law_take (K := K) ?rdA ?rdB ?_); (case rdA => (purse 2 => fail)); (case rdB => omega); intro r2 H2 h2 r2l r2u) | ((with_reducible refine' u_law_step_period ?rdA ?rdB ?_); (case rdA => (purse 2 => fail)); (case rdB => assumption); intro H2 h2) | ((with_reducible refine' u_law_step (K := K) ?rdA ?rdB ?_); (case rdA => (purse 2 => fail)); (case rdB => omega); intro v2 s2 H2 h2 t2 o2 l2)))
section
variable {P : Program} {w : World} {K : PySem.W.Frag} {mg : Str → Option Value} {base : Heap}
theorem ok_law_pipeline {f : Addr} {fd : FuncData} (F : Fun K "_law_pipeline" "_law_pipeline" s_law_pipeline f fd) (c__law_take : Can P w K mg base 1 "_law_take" ["bag", "many"] (sp_law_take K)) (c__law_step_period : Can P w K mg base 1 "_law_step_period" ["step"] (sp_law_step_period K)) (c__law_step : Can P w K mg base 3 "_law_step" ["bag", "limit"] (sp_law_step K)) (z_tuple : mg "tuple" = none) (z_range : mg "range" = none) :
    FnOk P w K mg base CX0 4 f fd ["bag", "most", "limit"] (sp_law_pipeline K) := by
  refine F.ok sc_law_pipeline (fun vs H Q E h => sp_law_pipeline_len h) (fun cdv A outer s H vs Q E hr h => ?_)
  obtain ⟨b, d, m, l, rfl, hb, hm, hl, k⟩ := h
  refine ⟨_, (pss_cons (ps_par (i := 3) (j := 4) (by rfl) sc_law_pipeline.nd rfl rfl (by decide) rfl rfl (pa_cons (pe_lst pa_nil) (pa_cons (pv 2) pa_nil)) (by rfl)) (pss_cons (ps_for PassesOwn.never rfl (pi_range1 (by rfl) z_range (pa_cons (pe_can c__law_take (hr.mono (by decide)) (by rfl) (pa_cons (pv 0) (pa_cons (pe_op op_add (pv 1) pe_int) pa_nil))) pa_nil)) (pg_name (i := 5) sc_law_pipeline.nd rfl (Or.inl rfl)) (pss_cons (ps_set (i := 6) sc_law_pipeline.nd rfl (Or.inl rfl) (pe_can c__law_step (hr.mono (by decide)) (by rfl) (pa_cons (pv 0) (pa_cons (pv 4) pa_nil)))) (pss_one (ps_if (PW.pt (pw_or (pt_cmpR op_eq (pe_ix (kix_tup K) (pv 6) pe_int (fun _ _ => rfl)) pe_str (nomark _)) (pw_or1 (pt_cmpR op_le (pe_can c__law_step_period (hr.mono (by decide)) (by rfl) (pa_cons (pv 6) pa_nil)) (pv 4) (nomark _))))) (pss_cons (ps_expr (pe_bm PySem.F.plainAttrs_list PySem.F.slot_list_append PySem.F.type_list_append mt_append (pv 3) (pa_cons (pv 6) pa_nil))) (pss_one (ps_set (i := 4) sc_law_pipeline.nd rfl (Or.inl rfl) (pe_op op_fdiv (pv 4) (pe_can c__law_step_period (hr.mono (by decide)) (by rfl) (pa_cons (pv 6) pa_nil)))))) pss_nil)))) (pss_one (ps_ret (pe_callTy (ktuple_of K) (by rfl) z_tuple (by decide +kernel) (pa_cons (pv 3) pa_nil)))))), ?_⟩
  (purse 12 => fail)
  refine fl_range (fun i σ' H' => Bs K b d H H' ∧ ∃ (xs : List V) (p : Pipe) (left : Int) (w1 w2 : Option V), H' pN = some (.lst xs) ∧ Paired (StepAt K H') xs p ∧ p.length ≤ i ∧ (∀ s ∈ p, s.ok) ∧ 1 ≤ left ∧ p.prod * left ≤ l ∧
    σ' = [some (.ref b), some (.int m), some (.int l), some (.ref pN), some (.int left), w1, w2]) ?_ ?_ ?_
  · exact ⟨by (purse 6 => fail), [], [], l, _, _, by (purse 3 => fail), .nil, Nat.le_refl _, by simp, hl.1, by rw [Pipe.prod_nil]; omega, rfl⟩
  · rintro i σ' H' hi ⟨hB, xs, p, left, w1, w2, hp, hx, hpl, hok, hl1, hpr, rfl⟩
    have hi6 : i < 6 := by omega
    have hb' := hB.bag
    have hpp := Pipe.prod_pos hok
    have hl2 : left ≤ l := le_of_mul_le_r hpp (by omega) hpr
    have hxl := Paired.len hx
    (purse 12 => fail)
    have hx2 := Paired.mapP hx fun _ _ z => StepAt.hb h2 z
    have hp2 : H2 pN = some (.lst xs) := by (purse 3 => fail)
    have t3 := t2
    obtain ⟨a2, rfl, q2⟩ := t2
    have pos2 := o2.pos
    obtain ⟨pe1, pe2⟩ := Step.per_pos o2
    have fin : ∀ (s2 : Step) (H3 : Hp), s2.ok → s2.per ≤ left → Bs K b d H H3 → H3 pN = some (.lst (xs ++ [V.ref a2])) → Paired (StepAt K H3) xs p → StepAt K H3 (.ref a2) s2 → ∃ (xs' : List V) (p' : Pipe) (left' : Int) (w1' w2' : Option V), H3 pN = some (.lst xs') ∧ Paired (StepAt K H3) xs' p' ∧ p'.length ≤ i + 1 ∧ (∀ s ∈ p', s.ok) ∧ 1 ≤ left' ∧ p'.prod * left' ≤ l ∧
        [some (V.ref b), some (.int m), some (.int l), some (.ref pN), some (.int (left / s2.per)), some (.int (0 + (i : Int))), some (.ref a2)] = [some (V.ref b), some (.int m), some (.int l), some (.ref pN), some (.int left'), w1', w2'] := by
      intro s2 H3 ho hle hB3 hp3 hx3 hs3
      obtain ⟨e1, e2⟩ := Step.per_pos ho
      refine ⟨_, p ++ [s2], left / s2.per, _, _, hp3, Paired.snoc hx3 hs3, by rw [List.length_append, List.length_singleton]; omega, ?_, one_le_div e1 hle, ?_, rfl⟩
      · intro s hs
        rcases List.mem_append.mp hs with h | h
        · exact hok s h
        · rw [List.mem_singleton.mp h]; exact ho
      · rw [Pipe.prod_snoc]; exact prod_step hpp e1 hpr
    cases s2 with
    | sc k2 m2 c2 =>
      have hm2 := l2 _ _ _ rfl
      (purse 12 => fail)
      exact ⟨by (purse 6 => fail), fin _ _ o2 hm2 (by (purse 6 => fail)) (by (purse 3 => fail)) (Paired.mapP hx2 fun _ _ z => by (purse 2 => fail)) (by (purse 2 => fail))⟩
    | ev m2 =>
      (purse 12 => fail)
      · exact ⟨by (purse 6 => fail), fin _ _ o2 hc (by (purse 6 => fail)) (by (purse 3 => fail)) (Paired.mapP hx2 fun _ _ z => by (purse 2 => fail)) (by (purse 2 => fail))⟩
      · exact ⟨by (purse 6 => fail), xs, p, left, _, _, by (purse 3 => fail), (Paired.mapP hx2 fun _ _ z => by (purse 2 => fail)), by omega, hok, hl1, hpr, rfl⟩
  · rintro σ' H' ⟨hB, xs, p, left, w1, w2, hp, hx, hpl, hok, hl1, hpr, rfl⟩
    have hpp := Pipe.prod_pos hok
    (purse 12 => fail)
    refine k _ p _ (by (purse 6 => fail)) ⟨_, xs, rfl, SqT.new, Paired.mapP hx fun _ _ z => by (purse 2 => fail)⟩ (by omega) hok ?_
    have := Int.mul_le_mul_of_nonneg_left hl1 (show 0 ≤ p.prod by omega)
    omega
end
end
section
local macro_rules | `(tactic| purse 99 => fail) => `(tactic| (first | ((with_reducible refine' u_law_take (K := K) ?rdA ?rdB ?_); (case rdA => (purse 2 => fail)); (case rdB => omega); intro r2 H2 h2 r2l r2u) | ((with_reducible refine' u_law_far_draw (K := K) ?rdA ?rdB ?_); (case rdA => (purse 2 => fail)); (case rdB => omega); intro r2 H2 h2 r2l r2u)))
section
variable {P : Program} {w : World} {K : PySem.W.Frag} {mg : Str → Option Value} {base : Heap}
theorem ok_law_integer {f : Addr} {fd : FuncData} (F : Fun K "_law_integer" "_law_integer" s_law_integer f fd) (c__law_take : Can P w K mg base 1 "_law_take" ["bag", "many"] (sp_law_take K)) (c__law_far_draw : Can P w K mg base 2 "_law_far_draw" ["bag", "many"] (sp_law_far_draw K)) :
    FnOk P w K mg base CX0 3 f fd ["bag"] (sp_law_integer K) := by
  refine F.ok sc_law_integer (fun vs H Q E h => sp_law_integer_len h) (fun cdv A outer s H vs Q E hr h => ?_)
  obtain ⟨b, d, rfl, hb, k⟩ := h
  refine ⟨_, (pss_cons (ps_set (i := 1) sc_law_integer.nd rfl (Or.inl rfl) (pe_ix (kix_list K) (pe_lst (pa_cons (pe_can c__law_take (hr.mono (by decide)) (by rfl) (pa_cons (pv 0) (pa_cons pe_int pa_nil))) (pa_cons (pe_can c__law_far_draw (hr.mono (by decide)) (by rfl) (pa_cons (pv 0) (pa_cons (pe_op op_pow pe_int pe_int) pa_nil))) (pa_cons (pe_can c__law_far_draw (hr.mono (by decide)) (by rfl) (pa_cons (pv 0) (pa_cons (pe_op op_pow pe_int pe_int) pa_nil))) pa_nil)))) (pe_can c__law_take (hr.mono (by decide)) (by rfl) (pa_cons (pv 0) (pa_cons pe_int pa_nil))) (fun _ _ => rfl))) (pss_one (ps_ret (pe_ifExp (pt_cmpR op_eq (pe_can c__law_take (hr.mono (by decide)) (by rfl) (pa_cons (pv 0) (pa_cons pe_int pa_nil))) pe_int (nomark _)) (pv 1) (pe_op op_sub pe_int (pv 1)))))), ?_⟩
  (purse 12 => fail)
  refine r_pick3 (lo := 0) (hi := 100000000000000000) (by (purse 2 => fail)) r2l r2u (by omega) (by omega) (by omega) fun z z0 z1 => ?_
  (purse 12 => fail)
  all_goals exact k _ _ (by (purse 6 => fail)) (by omega) (by omega)
end
end
section

section
variable {P : Program} {w : World} {K : PySem.W.Frag} {mg : Str → Option Value} {base : Heap}
theorem ok_law_apply_step {f : Addr} {fd : FuncData} (F : Fun K "_law_apply_step" "_law_apply_step" s_law_apply_step f fd)  :
    FnOk P w K mg base CX0 1 f fd ["step", "x"] (sp_law_apply_step K) := by
  refine F.ok sc_law_apply_step (fun vs H Q E h => sp_law_apply_step_len h) (fun cdv A outer s H vs Q E hr h => ?_)
  obtain ⟨v, st, x, rfl, ⟨a, rfl, hS⟩, hp, k⟩ := h
  refine ⟨_, (pss_cons (ps_if (pt_cmpR op_eq (pe_ix (kix_tup K) (pv 0) pe_int (fun _ _ => rfl)) pe_str (nomark _)) (pss_cons (ps_set (i := 2) sc_law_apply_step.nd rfl (Or.inl rfl) (pe_op op_add (pe_op op_mul (pe_ix (kix_tup K) (pv 0) pe_int (fun _ _ => rfl)) (pv 1)) (pe_ix (kix_tup K) (pv 0) pe_int (fun _ _ => rfl)))) (pss_one (ps_ret (pe_op op_fdiv (pe_op op_sub (pv 2) (pe_op op_mod (pv 2) (pe_ix (kix_tup K) (pv 0) pe_int (fun _ _ => rfl)))) (pe_ix (kix_tup K) (pv 0) pe_int (fun _ _ => rfl)))))) pss_nil) (pss_cons (ps_set (i := 3) sc_law_apply_step.nd rfl (Or.inl rfl) (pe_ix (kix_tup K) (pv 0) pe_int (fun _ _ => rfl))) (pss_cons (ps_set (i := 4) sc_law_apply_step.nd rfl (Or.inl rfl) (pe_op op_fdiv (pe_op op_sub (pv 1) (pe_op op_mod (pv 1) (pv 3))) (pv 3))) (pss_cons (ps_par (i := 5) (j := 6) (by rfl) sc_law_apply_step.nd rfl rfl (by decide) rfl rfl (pa_cons (pe_op op_sub (pv 1) (pe_op op_mul (pv 4) (pv 3))) (pa_cons (pe_op op_sub (pe_op op_mul (pe_op op_add (pv 4) pe_int) (pv 3)) (pv 1)) pa_nil)) (by rfl)) (pss_cons (ps_if (pt_cmpR op_eq (pv 5) (pv 6) (nomark _)) (pss_one (ps_ret (pe_ifExp (pt_cmpR op_eq (pe_op op_mod (pv 4) pe_int) pe_int (nomark _)) (pv 4) (pe_op op_add (pv 4) pe_int)))) pss_nil) (pss_one (ps_ret (pe_ifExp (pt_cmpR op_lt (pv 5) (pv 6) (nomark _)) (pv 4) (pe_op op_add (pv 4) pe_int))))))))), ?_⟩
  cases st with
  | sc ks m c =>
    obtain ⟨⟨k1, k2⟩, m1, m2⟩ := hp
    (purse 12 => fail)
    exact qint (sub_emod_div (by omega)) (k _ (Same.refl _))
  | ev m =>
    obtain ⟨m1, m2⟩ := hp
    have e1 : (x - x % m) / m = x / m := sub_emod_div (by omega)
    have e2 : x / m * m = x - x % m := by have := Int.mul_ediv_add_emod x m; rw [Int.mul_comm]; omega
    have e3 : (x / m + 1) * m = x / m * m + m := by rw [Int.add_mul, Int.one_mul]
    (purse 12 => fail)
    all_goals
      simp only [e1, e3, e2] at *
      refine qint ?_ (k _ (Same.refl _))
      simp only [Step.val]
      split <;> (try split) <;> omega
end
end
section
local macro_rules | `(tactic| purse 99 => fail) => `(tactic| (first | ((with_reducible refine' u_apply ?rdA ?rdB ?rdC ?_); (case rdA => (purse 2 => fail)); (case rdB => (first | assumption | decide)); (case rdC => (first | assumption | omega | (constructor <;> omega))); intro H2 h2) | ((with_reducible refine' u_trace ?rdA ?rdB ?rdC ?_); (case rdA => (purse 2 => fail)); (case rdB => (first | assumption | decide)); (case rdC => (first | assumption | omega | (constructor <;> omega))); intro q2 H2 h2 n2 l2) | ((with_reducible refine' u_law_bags (K := K) ?rdA ?rdB ?_); (case rdA => (purse 2 => fail)); (case rdB => omega); intro q2 bs2 H2 h2 n2 bg2) | ((with_reducible refine' u_law_apply_step ?rdA ?rdB ?_); (case rdA => (purse 2 => fail)); (case rdB => assumption); intro H2 h2) | ((with_reducible refine' u_law_take (K := K) ?rdA ?rdB ?_); (case rdA => (purse 2 => fail)); (case rdB => omega); intro r2 H2 h2 r2l r2u) | ((with_reducible refine' u_law_integer (K := K) ?rdA ?_); (case rdA => (purse 2 => fail)); intro r2 H2 h2 r2l r2u) | ((with_reducible refine' u_law_pipeline (K := K) ?rdA ?rdB ?rdC ?_); (case rdA => (purse 2 => fail)); (case rdB => omega); (case rdC => omega); intro v2 p2 H2 h2 t2 l2 o2 r2)))
section
variable {P : Program} {w : World} {K : PySem.W.Frag} {mg : Str → Option Value} {base : Heap}
theorem ok_law {f : Addr} {fd : FuncData} (F : Fun K "law" "law" s_law f fd) (c_apply : Can P w K mg base 5 "apply" ["pipeline", "x"] (sp_apply K)) (c_trace : Can P w K mg base 5 "trace" ["pipeline", "x"] (sp_trace K)) (c__law_bags : Can P w K mg base 3 "_law_bags" ["script", "limit"] (sp_law_bags K)) (c__law_apply_step : Can P w K mg base 1 "_law_apply_step" ["step", "x"] (sp_law_apply_step K)) (c__law_take : Can P w K mg base 1 "_law_take" ["bag", "many"] (sp_law_take K)) (c__law_integer : Can P w K mg base 3 "_law_integer" ["bag"] (sp_law_integer K)) (c__law_pipeline : Can P w K mg base 4 "_law_pipeline" ["bag", "most", "limit"] (sp_law_pipeline K)) (z_range : mg "range" = none) (z_isinstance : mg "isinstance" = none) (z_list : mg "list" = none) :
    FnOk P w K mg base CX0 6 f fd ["script"] (sp_law K) := by
  refine F.ok sc_law (fun vs H Q E h => sp_law_len h) (fun cdv A outer s H vs Q E hr h => ?_)
  obtain ⟨a, ns, rfl, hS, k⟩ := h
  refine ⟨_, (pss_cons (ps_for PassesOwn.never rfl (kpi_list K (pe_can c__law_bags (hr.mono (by decide)) (by rfl) (pa_cons (pv 0) (pa_cons pe_int pa_nil)))) (pg_name (i := 1) sc_law.nd rfl (Or.inl rfl)) (pss_cons (ps_set (i := 2) sc_law.nd rfl (Or.inl rfl) (pe_can c__law_pipeline (hr.mono (by decide)) (by rfl) (pa_cons (pv 1) (pa_cons pe_int (pa_cons pe_int pa_nil))))) (pss_cons (ps_for PassesOwn.never rfl (pi_range1 (by rfl) z_range (pa_cons pe_int pa_nil)) (pg_name (i := 3) sc_law.nd rfl (Or.inl rfl)) (pss_cons (ps_set (i := 4) sc_law.nd rfl (Or.inl rfl) (pe_can c__law_integer (hr.mono (by decide)) (by rfl) (pa_cons (pv 1) pa_nil))) (pss_cons (ps_par (i := 5) (j := 6) (by rfl) sc_law.nd rfl rfl (by decide) rfl rfl (pa_cons (pe_lst pa_nil) (pa_cons (pv 4) pa_nil)) (by rfl)) (pss_cons (ps_for PassesOwn.never rfl (kpi_tup K (pv 2)) (pg_name (i := 7) sc_law.nd rfl (Or.inl rfl)) (pss_cons (ps_set (i := 6) sc_law.nd rfl (Or.inl rfl) (pe_can c__law_apply_step (hr.mono (by decide)) (by rfl) (pa_cons (pv 7) (pa_cons (pv 6) pa_nil)))) (pss_one (ps_expr (pe_bm PySem.F.plainAttrs_list PySem.F.slot_list_append PySem.F.type_list_append mt_append (pv 5) (pa_cons (pv 6) pa_nil)))))) (pss_cons (ps_set (i := 8) sc_law.nd rfl (Or.inl rfl) (pe_can c_trace (hr.mono (by decide)) (by rfl) (pa_cons (pv 2) (pa_cons (pv 4) pa_nil)))) (pss_cons (ps_if (PW.pt (pw_or (pt_cmpR op_ne (pe_can c_apply (hr.mono (by decide)) (by rfl) (pa_cons (pv 2) (pa_cons (pv 4) pa_nil))) (pv 6) (nomark _)) (pw_or (pt_cmpR (kneD K hr.units) (pv 8) (pv 5) (nomark _)) (pw_or1 (pt_not (pt_val (pe_callB (kisi K) (by rfl) z_isinstance (by decide +kernel) (pa_cons (pv 8) (pa_cons (pe_bltn (v := .ty "list") (by rfl) z_list (by decide +kernel) rfl) pa_nil))))))))) (pss_one (ps_ret pe_bl)) pss_nil) (pss_cons (ps_expr (pe_bm PySem.F.plainAttrs_list PySem.F.slot_list_append PySem.F.type_list_append mt_append (pv 8) (pa_cons pe_int pa_nil))) (pss_one (ps_if (pt_cmpR (kneD K hr.units) (pe_can c_trace (hr.mono (by decide)) (by rfl) (pa_cons (pv 2) (pa_cons (pv 4) pa_nil))) (pv 5) (nomark _)) (pss_one (ps_ret pe_bl)) pss_nil))))))))) (pss_cons (ps_set (i := 9) sc_law.nd rfl (Or.inl rfl) (pe_op op_add pe_int (pe_can c__law_take (hr.mono (by decide)) (by rfl) (pa_cons (pv 1) (pa_cons pe_int pa_nil))))) (pss_one (ps_for PassesOwn.never rfl (pi_range2 (by rfl) z_range (pa_cons (pe_op op_mul (pe_un un_neg pe_int) (pv 9)) (pa_cons (pe_op op_add (pe_op op_mul pe_int (pv 9)) pe_int) pa_nil))) (pg_name (i := 4) sc_law.nd rfl (Or.inl rfl)) (pss_one (ps_if (pt_cmpR op_ne (pe_can c_apply (hr.mono (by decide)) (by rfl) (pa_cons (pe_tup (pa_cons (pe_tup (pa_cons pe_str (pa_cons (pe_op op_mul pe_int (pv 9)) pa_nil))) pa_nil)) (pa_cons (pv 4) pa_nil))) (pe_can c__law_apply_step (hr.mono (by decide)) (by rfl) (pa_cons (pe_tup (pa_cons pe_str (pa_cons (pe_op op_mul pe_int (pv 9)) pa_nil))) (pa_cons (pv 4) pa_nil))) (nomark _)) (pss_one (ps_ret pe_bl)) pss_nil)))))))) (pss_cons (ps_set (i := 10) sc_law.nd rfl (Or.inl rfl) (pe_tup (pa_cons (pe_tup (pa_cons pe_str (pa_cons pe_int (pa_cons pe_int (pa_cons pe_int pa_nil))))) (pa_cons (pe_tup (pa_cons pe_str (pa_cons pe_int (pa_cons pe_int (pa_cons pe_int pa_nil))))) pa_nil)))) (pss_cons (ps_if (PW.pt (pw_or (pt_cmpR op_ne (pe_can c_apply (hr.mono (by decide)) (by rfl) (pa_cons (pv 10) (pa_cons pe_int pa_nil))) pe_int (nomark _)) (pw_or (pt_cmpR (kneD K hr.units) (pe_can c_trace (hr.mono (by decide)) (by rfl) (pa_cons (pv 10) (pa_cons pe_int pa_nil))) (pe_lst (pa_cons pe_int (pa_cons pe_int pa_nil))) (nomark _)) (pw_or1 (pt_cmpR op_ne (pe_can c_apply (hr.mono (by decide)) (by rfl) (pa_cons (pe_tup (pa_cons (pe_tup (pa_cons pe_str (pa_cons pe_int pa_nil))) pa_nil)) (pa_cons (pe_un un_neg pe_int) pa_nil))) (pe_un un_neg pe_int) (nomark _)))))) (pss_one (ps_ret pe_bl)) pss_nil) (pss_one (ps_ret (pe_cmpR op_eq (pe_can c_apply (hr.mono (by decide)) (by rfl) (pa_cons (pe_tup pa_nil) (pa_cons pe_int pa_nil))) pe_int (nomark _))))))), ?_⟩
  (purse 12 => fail)
  refine i_l (SqL.of bg2.lst) ?_
  refine fl_bags bg2 (fun σ' => ∃ w1 w2 w3 w4 w5 w6 w7 w8 w9 w10, σ' = [some (.ref a), w1, w2, w3, w4, w5, w6, w7, w8, w9, w10]) ⟨_, _, _, _, _, _, _, _, _, _, rfl⟩ ?_ ?_
  · rintro b d σ' H3 ⟨w1, w2, w3, w4, w5, w6, w7, w8, w9, w10, rfl⟩ hb
    (purse 12 => fail)
    obtain ⟨pa, xs0, rfl, hS0, hx0⟩ := t2
    have hP0 : PipeAt K H2 (.ref pa) p2 := ⟨pa, xs0, rfl, hS0, hx0⟩
    have pok : p2.ok := ⟨by omega, o2, r2⟩
    have pp := pok.pos
    refine fl_range (fun i σ' H' => Bs K b d H3 H' ∧ PipeAt K H' (.ref pa) p2 ∧ ∃ w3 w4 w5 w6 w7 w8 w9 w10, σ' = [some (.ref a), some (.ref b), some (.ref pa), w3, w4, w5, w6, w7, w8, w9, w10]) ⟨by (purse 6 => fail), hP0, _, _, _, _, _, _, _, _, rfl⟩ ?_ ?_
    · rintro i σ' H4 hi ⟨hB, ⟨_, xs, e, hS, hx⟩, w3, w4, w5, w6, w7, w8, w9, w10, rfl⟩
      cases e
      have hb4 := hB.bag
      (purse 12 => fail)
      have hS2 : SqT K H2 pa xs := by (purse 2 => fail)
      have hx2 := Paired.mapP hx fun _ _ z => StepAt.hb h2 z
      have hl6 := pok.1
      refine fl_P (p := p2) hS2 hx2 (fun i σ' H' => Same H2 H' ∧ Bs K b d H3 H' ∧ H' pN = some (.lst ((Pipe.trace (p2.take i) r2).map V.int)) ∧ ∃ w3 w7 w8 w9 w10, σ' = [some (.ref a), some (.ref b), some (.ref pa), w3, some (.int r2), some (.ref pN), some (.int (Pipe.val (p2.take i) r2)), w7, w8, w9, w10])
        ⟨by (purse 1 => fail), by (purse 6 => fail), upd_same, _, _, _, _, _, rfl⟩ (fun _ _ _ h => .ofSame h.1) ?_ ?_
      · rintro j s v σ' H5 hj hm hs ⟨hS5, hB5, hp5, w3, w7, w8, w9, w10, rfl⟩
        have ps := pp s hm
        have hlt : (Pipe.trace (p2.take j) r2).length ≤ 6 := by rw [Pipe.trace_length, List.length_take]; omega
        (purse 12 => fail)
        refine ⟨by (purse 1 => fail), by (purse 6 => fail), ?_, _, _, _, _, _, by rw [Pipe.val_take hj]; rfl⟩
        rw [upd_same, Pipe.trace_take hj, List.map_append]; rfl
      · rintro σ' H5 ⟨hS5, hB5, hp5, w3, w7, w8, w9, w10, rfl⟩
        rw [List.take_length] at hp5
        rw [List.take_length]
        have hP5 : PipeAt K H5 (.ref pa) p2 := ⟨pa, xs, rfl, SqT.hs hS5 hS2, Paired.mapP hx2 fun _ _ z => StepAt.hs hS5 z⟩
        have htl : (p2.trace r2).length ≤ 6 := by rw [Pipe.trace_length]; exact hl6
        (purse 12 => fail)
        exact ⟨by (purse 6 => fail), by (purse 2 => fail), _, _, _, _, _, _, _, _, rfl⟩
    · rintro σ' H4 ⟨hB, hP, w3, w4, w5, w6, w7, w8, w9, w10, rfl⟩
      have hb4 := hB.bag
      (purse 12 => fail)
      refine fl_range (fun i σ' H' => Bs K b d H3 H' ∧ ∃ w3 w4 w5 w6 w7 w8 w10, σ' = [some (.ref a), some (.ref b), some (.ref pa), w3, w4, w5, w6, w7, w8, some (.int (1 + r2)), w10]) ⟨by (purse 6 => fail), _, _, _, _, _, _, _, rfl⟩ ?_ ?_
      · rintro i σ' H5 hi ⟨hB5, w3, w4, w5, w6, w7, w8, w10, rfl⟩
        have pok1 : Pipe.ok [.ev (2 * (1 + r2))] := ⟨by simp, by simp [Step.ok]; omega, by simp [Pipe.prod, Step.per]; omega⟩
        have ps1 : Step.pos (.ev (2 * (1 + r2))) := ⟨by omega, by omega⟩
        (purse 12 => fail)
        · exact absurd rfl hc
        · exact ⟨by (purse 6 => fail), _, _, _, _, _, _, _, rfl⟩
      · rintro σ' H5 ⟨hB5, w3, w4, w5, w6, w7, w8, w10, rfl⟩
        exact ⟨hB5, _, _, _, _, _, _, _, _, _, _, rfl⟩
  · rintro σ' H3 ⟨w1, w2, w3, w4, w5, w6, w7, w8, w9, w10, rfl⟩
    (purse 12 => fail)
    rw [show Pipe.trace [Step.sc 1 3 0, Step.sc 2 1 1] 7 = [2, 5] from by decide +kernel] at l2
    refine r_neInts (ns := [2, 5]) (by (purse 2 => fail)) (by exact SqL.new) ?_
    (purse 12 => fail)
    exact qbl (by decide +kernel) (k _)
end
end
section
variable {P : Program} {w : World} {K : PySem.W.Frag} {mg : Str → Option Value} {base : Heap}
/-! ### what the top has written -/
structure DefIn (K : PySem.W.Frag) (x : Str) (st : Stmt) : Prop where
  ex : ∃ (f : Addr) (oc : Value) (od an : Option Addr) (sl : Array (Option Value)) (kV dc pm cd ct : Value), PySem.W.nsIn K mainGlobals x = some (some (.ref f)) ∧
    K.lookup f = some ⟨oc, od, .func (PySem.W.fnOf x x (defArgs st) (defBody st) (defScope st) .none kV dc pm an cd ct), sl⟩ ∧ PySem.W.codeIn K cd x = true ∧ PySem.W.keepIn K (.ref f) = true
theorem DefIn.mk' {x : Str} {st : Stmt} {f : Addr} {oc : Value} {od an : Option Addr} {sl : Array (Option Value)} {kV dc pm cd ct : Value} (a : PySem.W.nsIn K mainGlobals x = some (some (.ref f)))
    (l : K.lookup f = some ⟨oc, od, .func (PySem.W.fnOf x x (defArgs st) (defBody st) (defScope st) .none kV dc pm an cd ct), sl⟩) (c : PySem.W.codeIn K cd x = true) (k : PySem.W.keepIn K (.ref f) = true) : DefIn K x st :=
  ⟨f, oc, od, an, sl, kV, dc, pm, cd, ct, a, l, c, k⟩
theorem DefIn.at' {x : Str} {st : Stmt} {h : Heap} (D : DefIn K x st) (X : K.In h) (G : h.Ns mainGlobals mg) : ∃ f fd, Fun K x x st f fd ∧ mg x = some (.ref f) ∧
    ∃ kV dc pm an cd ct, fd = PySem.W.fnOf x x (defArgs st) (defBody st) (defScope st) .none kV dc pm an cd ct := by
  obtain ⟨f, oc, od, an, sl, kV, dc, pm, cd, ct, a, l, c, k⟩ := D.ex
  exact ⟨f, _, fun_mk l c k, PySem.W.mg_of X G a, kV, dc, pm, an, cd, ct, rfl⟩
theorem kint_of {x : Str} {i : Int} {t : Tok} {h : Heap} (X : K.In h) (G : h.Ns mainGlobals mg) (a : PySem.W.nsIn K mainGlobals x = some (some (.int i t))) : KInt mg x i := ⟨t, PySem.W.mg_of X G a⟩
theorem all_mk {l : PySem.W.OpenLaw} {w : World} {h : Heap} {fa : Addr} (X : K.In h) (G : h.Ns mainGlobals mg) (hfa : mg "law" = some (.ref fa)) (d_is_integer : DefIn K "is_integer" s_is_integer) (d_is_step : DefIn K "is_step" s_is_step) (d_step_period : DefIn K "step_period" s_step_period) (d_is_pipeline : DefIn K "is_pipeline" s_is_pipeline) (d_need_pipeline : DefIn K "need_pipeline" s_need_pipeline) (d_need_integer : DefIn K "need_integer" s_need_integer) (d_step_value : DefIn K "step_value" s_step_value) (d_value_at : DefIn K "value_at" s_value_at) (d_apply : DefIn K "apply" s_apply) (d_trace : DefIn K "trace" s_trace) (d__law_cell_at : DefIn K "_law_cell_at" s_law_cell_at) (d__law_draws : DefIn K "_law_draws" s_law_draws) (d__law_bag : DefIn K "_law_bag" s_law_bag) (d__law_bags : DefIn K "_law_bags" s_law_bags) (d__law_take : DefIn K "_law_take" s_law_take) (d__law_far_draw : DefIn K "_law_far_draw" s_law_far_draw) (d__law_step_period : DefIn K "_law_step_period" s_law_step_period) (d__law_step : DefIn K "_law_step" s_law_step) (d__law_pipeline : DefIn K "_law_pipeline" s_law_pipeline) (d__law_integer : DefIn K "_law_integer" s_law_integer) (d__law_apply_step : DefIn K "_law_apply_step" s_law_apply_step) (d_law : DefIn K "law" s_law) (y_isinstance : PySem.W.nsIn K mainGlobals "isinstance" = some none) (y_bool : PySem.W.nsIn K mainGlobals "bool" = some none) (y_int : PySem.W.nsIn K mainGlobals "int" = some none) (y_len : PySem.W.nsIn K mainGlobals "len" = some none) (y_str : PySem.W.nsIn K mainGlobals "str" = some none) (y_tuple : PySem.W.nsIn K mainGlobals "tuple" = some none) (y_all : PySem.W.nsIn K mainGlobals "all" = some none) (y_range : PySem.W.nsIn K mainGlobals "range" = some none) (y_max : PySem.W.nsIn K mainGlobals "max" = some none) (y_min : PySem.W.nsIn K mainGlobals "min" = some none) (y_list : PySem.W.nsIn K mainGlobals "list" = some none) {t_OFFSET_BOUND : Tok} (q_OFFSET_BOUND : PySem.W.nsIn K mainGlobals "OFFSET_BOUND" = some (some (.int 1000000000 t_OFFSET_BOUND))) {t_MAX_PERIOD : Tok} (q_MAX_PERIOD : PySem.W.nsIn K mainGlobals "MAX_PERIOD" = some (some (.int 120 t_MAX_PERIOD))) {t_MAX_STEPS : Tok} (q_MAX_STEPS : PySem.W.nsIn K mainGlobals "MAX_STEPS" = some (some (.int 6 t_MAX_STEPS))) {t_BOUND : Tok} (q_BOUND : PySem.W.nsIn K mainGlobals "BOUND" = some (some (.int 1000000000000000000 t_BOUND))) :
    ∃ fd : FuncData, (∀ (s : Shared) (v : Value), BindsTo s fd ⟨[v], []⟩ [("script", v)]) ∧ ∀ base : Heap, K.In base → base.Ns mainGlobals mg → FnOk l.prog w K mg base CX0 6 fa fd ["script"] (sp_law K) := by
  have z_isinstance := PySem.W.mg_none_of X G y_isinstance
  have z_bool := PySem.W.mg_none_of X G y_bool
  have z_int := PySem.W.mg_none_of X G y_int
  have z_len := PySem.W.mg_none_of X G y_len
  have z_str := PySem.W.mg_none_of X G y_str
  have z_tuple := PySem.W.mg_none_of X G y_tuple
  have z_all := PySem.W.mg_none_of X G y_all
  have z_range := PySem.W.mg_none_of X G y_range
  have z_max := PySem.W.mg_none_of X G y_max
  have z_min := PySem.W.mg_none_of X G y_min
  have z_list := PySem.W.mg_none_of X G y_list
  have g_OFFSET_BOUND := kint_of X G q_OFFSET_BOUND
  have g_MAX_PERIOD := kint_of X G q_MAX_PERIOD
  have g_MAX_STEPS := kint_of X G q_MAX_STEPS
  have g_BOUND := kint_of X G q_BOUND
  obtain ⟨f_is_integer, fd_is_integer, F_is_integer, m_is_integer, kV_is_integer, dc_is_integer, pm_is_integer, an_is_integer, cd_is_integer, ct_is_integer, e_is_integer⟩ := d_is_integer.at' X G
  have b_is_integer := F_is_integer.binds (ps := ["value", "low", "high"]) fun _ _ _ _ _ _ us hl => match us, hl with | [_, _, _], _ => rfl
  have c_is_integer : ∀ base : Heap, Can l.prog w K mg base 1 "is_integer" ["value", "low", "high"] (sp_is_integer K) := fun base => .mk' F_is_integer (ok_is_integer F_is_integer z_isinstance z_bool z_int) b_is_integer m_is_integer
  obtain ⟨f_is_step, fd_is_step, F_is_step, m_is_step, kV_is_step, dc_is_step, pm_is_step, an_is_step, cd_is_step, ct_is_step, e_is_step⟩ := d_is_step.at' X G
  have b_is_step := F_is_step.binds (ps := ["value"]) fun _ _ _ _ _ _ us hl => match us, hl with | [_], _ => rfl
  have c_is_step : ∀ base : Heap, Can l.prog w K mg base 2 "is_step" ["value"] (sp_is_step K) := fun base => .mk' F_is_step (ok_is_step F_is_step (c_is_integer base) z_len z_isinstance z_str z_tuple g_OFFSET_BOUND) b_is_step m_is_step
  obtain ⟨f_step_period, fd_step_period, F_step_period, m_step_period, kV_step_period, dc_step_period, pm_step_period, an_step_period, cd_step_period, ct_step_period, e_step_period⟩ := d_step_period.at' X G
  have b_step_period := F_step_period.binds (ps := ["step"]) fun _ _ _ _ _ _ us hl => match us, hl with | [_], _ => rfl
  have c_step_period : ∀ base : Heap, Can l.prog w K mg base 1 "step_period" ["step"] (sp_step_period K) := fun base => .mk' F_step_period (ok_step_period F_step_period) b_step_period m_step_period
  obtain ⟨f_is_pipeline, fd_is_pipeline, F_is_pipeline, m_is_pipeline, kV_is_pipeline, dc_is_pipeline, pm_is_pipeline, an_is_pipeline, cd_is_pipeline, ct_is_pipeline, e_is_pipeline⟩ := d_is_pipeline.at' X G
  have b_is_pipeline := F_is_pipeline.binds (ps := ["value"]) fun _ _ _ _ _ _ us hl => match us, hl with | [_], _ => rfl
  have c_is_pipeline : ∀ base : Heap, Can l.prog w K mg base 3 "is_pipeline" ["value"] (sp_is_pipeline K) := fun base => .mk' F_is_pipeline (ok_is_pipeline F_is_pipeline (c_step_period base) (c_is_step base) z_all z_len z_isinstance z_tuple g_MAX_PERIOD g_MAX_STEPS) b_is_pipeline m_is_pipeline
  obtain ⟨f_need_pipeline, fd_need_pipeline, F_need_pipeline, m_need_pipeline, kV_need_pipeline, dc_need_pipeline, pm_need_pipeline, an_need_pipeline, cd_need_pipeline, ct_need_pipeline, e_need_pipeline⟩ := d_need_pipeline.at' X G
  have b_need_pipeline := F_need_pipeline.binds (ps := ["value"]) fun _ _ _ _ _ _ us hl => match us, hl with | [_], _ => rfl
  have c_need_pipeline : ∀ base : Heap, Can l.prog w K mg base 4 "need_pipeline" ["value"] (sp_need_pipeline K) := fun base => .mk' F_need_pipeline (ok_need_pipeline F_need_pipeline (c_is_pipeline base)) b_need_pipeline m_need_pipeline
  obtain ⟨f_need_integer, fd_need_integer, F_need_integer, m_need_integer, kV_need_integer, dc_need_integer, pm_need_integer, an_need_integer, cd_need_integer, ct_need_integer, e_need_integer⟩ := d_need_integer.at' X G
  have b_need_integer := F_need_integer.binds (ps := ["value"]) fun _ _ _ _ _ _ us hl => match us, hl with | [_], _ => rfl
  have c_need_integer : ∀ base : Heap, Can l.prog w K mg base 2 "need_integer" ["value"] (sp_need_integer K) := fun base => .mk' F_need_integer (ok_need_integer F_need_integer (c_is_integer base) g_BOUND) b_need_integer m_need_integer
  obtain ⟨f_step_value, fd_step_value, F_step_value, m_step_value, kV_step_value, dc_step_value, pm_step_value, an_step_value, cd_step_value, ct_step_value, e_step_value⟩ := d_step_value.at' X G
  have b_step_value := F_step_value.binds (ps := ["step", "x"]) fun _ _ _ _ _ _ us hl => match us, hl with | [_, _], _ => rfl
  have c_step_value : ∀ base : Heap, Can l.prog w K mg base 1 "step_value" ["step", "x"] (sp_step_value K) := fun base => .mk' F_step_value (ok_step_value F_step_value z_int) b_step_value m_step_value
  obtain ⟨f_value_at, fd_value_at, F_value_at, m_value_at, kV_value_at, dc_value_at, pm_value_at, an_value_at, cd_value_at, ct_value_at, e_value_at⟩ := d_value_at.at' X G
  have b_value_at := F_value_at.binds (ps := ["pipeline", "x"]) fun _ _ _ _ _ _ us hl => match us, hl with | [_, _], _ => rfl
  have c_value_at : ∀ base : Heap, Can l.prog w K mg base 2 "value_at" ["pipeline", "x"] (sp_value_at K) := fun base => .mk' F_value_at (ok_value_at F_value_at (c_step_value base)) b_value_at m_value_at
  obtain ⟨f_apply, fd_apply, F_apply, m_apply, kV_apply, dc_apply, pm_apply, an_apply, cd_apply, ct_apply, e_apply⟩ := d_apply.at' X G
  have b_apply := F_apply.binds (ps := ["pipeline", "x"]) fun _ _ _ _ _ _ us hl => match us, hl with | [_, _], _ => rfl
  have c_apply : ∀ base : Heap, Can l.prog w K mg base 5 "apply" ["pipeline", "x"] (sp_apply K) := fun base => .mk' F_apply (ok_apply F_apply (c_value_at base) (c_need_integer base) (c_need_pipeline base)) b_apply m_apply
  obtain ⟨f_trace, fd_trace, F_trace, m_trace, kV_trace, dc_trace, pm_trace, an_trace, cd_trace, ct_trace, e_trace⟩ := d_trace.at' X G
  have b_trace := F_trace.binds (ps := ["pipeline", "x"]) fun _ _ _ _ _ _ us hl => match us, hl with | [_, _], _ => rfl
  have c_trace : ∀ base : Heap, Can l.prog w K mg base 5 "trace" ["pipeline", "x"] (sp_trace K) := fun base => .mk' F_trace (ok_trace F_trace (c_step_value base) (c_need_integer base) (c_need_pipeline base)) b_trace m_trace
  obtain ⟨f__law_cell_at, fd__law_cell_at, F__law_cell_at, m__law_cell_at, kV__law_cell_at, dc__law_cell_at, pm__law_cell_at, an__law_cell_at, cd__law_cell_at, ct__law_cell_at, e__law_cell_at⟩ := d__law_cell_at.at' X G
  have b__law_cell_at := F__law_cell_at.binds (ps := ["script", "k"]) fun _ _ _ _ _ _ us hl => match us, hl with | [_, _], _ => rfl
  have c__law_cell_at : ∀ base : Heap, Can l.prog w K mg base 1 "_law_cell_at" ["script", "k"] (sp_law_cell_at K) := fun base => .mk' F__law_cell_at (ok_law_cell_at F__law_cell_at z_len) b__law_cell_at m__law_cell_at
  obtain ⟨f__law_draws, fd__law_draws, F__law_draws, m__law_draws, kV__law_draws, dc__law_draws, pm__law_draws, an__law_draws, cd__law_draws, ct__law_draws, e__law_draws⟩ := d__law_draws.at' X G
  have b__law_draws := F__law_draws.binds (ps := ["cell", "many", "size"]) fun _ _ _ _ _ _ us hl => match us, hl with | [_, _, _], _ => rfl
  have c__law_draws : ∀ base : Heap, Can l.prog w K mg base 1 "_law_draws" ["cell", "many", "size"] (sp_law_draws K) := fun base => .mk' F__law_draws (ok_law_draws F__law_draws z_range z_int) b__law_draws m__law_draws
  obtain ⟨f__law_bag, fd__law_bag, F__law_bag, m__law_bag, kV__law_bag, dc__law_bag, pm__law_bag, an__law_bag, cd__law_bag, ct__law_bag, e__law_bag⟩ := d__law_bag.at' X G
  have b__law_bag := F__law_bag.binds (ps := ["script", "k"]) fun _ _ _ _ _ _ us hl => match us, hl with | [_, _], _ => rfl
  have c__law_bag : ∀ base : Heap, Can l.prog w K mg base 2 "_law_bag" ["script", "k"] (sp_law_bag K) := fun base => .mk' F__law_bag (ok_law_bag F__law_bag (c__law_draws base) (c__law_cell_at base)) b__law_bag m__law_bag
  obtain ⟨f__law_bags, fd__law_bags, F__law_bags, m__law_bags, kV__law_bags, dc__law_bags, pm__law_bags, an__law_bags, cd__law_bags, ct__law_bags, e__law_bags⟩ := d__law_bags.at' X G
  have b__law_bags := F__law_bags.binds (ps := ["script", "limit"]) fun _ _ _ _ _ _ us hl => match us, hl with | [_, _], _ => rfl
  have c__law_bags : ∀ base : Heap, Can l.prog w K mg base 3 "_law_bags" ["script", "limit"] (sp_law_bags K) := fun base => .mk' F__law_bags (ok_law_bags F__law_bags (c__law_bag base) z_range z_max z_min z_len) b__law_bags m__law_bags
  obtain ⟨f__law_take, fd__law_take, F__law_take, m__law_take, kV__law_take, dc__law_take, pm__law_take, an__law_take, cd__law_take, ct__law_take, e__law_take⟩ := d__law_take.at' X G
  have b__law_take := F__law_take.binds (ps := ["bag", "many"]) fun _ _ _ _ _ _ us hl => match us, hl with | [_, _], _ => rfl
  have c__law_take : ∀ base : Heap, Can l.prog w K mg base 1 "_law_take" ["bag", "many"] (sp_law_take K) := fun base => .mk' F__law_take (ok_law_take F__law_take z_len) b__law_take m__law_take
  obtain ⟨f__law_far_draw, fd__law_far_draw, F__law_far_draw, m__law_far_draw, kV__law_far_draw, dc__law_far_draw, pm__law_far_draw, an__law_far_draw, cd__law_far_draw, ct__law_far_draw, e__law_far_draw⟩ := d__law_far_draw.at' X G
  have b__law_far_draw := F__law_far_draw.binds (ps := ["bag", "many"]) fun _ _ _ _ _ _ us hl => match us, hl with | [_, _], _ => rfl
  have c__law_far_draw : ∀ base : Heap, Can l.prog w K mg base 2 "_law_far_draw" ["bag", "many"] (sp_law_far_draw K) := fun base => .mk' F__law_far_draw (ok_law_far_draw F__law_far_draw (c__law_take base)) b__law_far_draw m__law_far_draw
  obtain ⟨f__law_step_period, fd__law_step_period, F__law_step_period, m__law_step_period, kV__law_step_period, dc__law_step_period, pm__law_step_period, an__law_step_period, cd__law_step_period, ct__law_step_period, e__law_step_period⟩ := d__law_step_period.at' X G
  have b__law_step_period := F__law_step_period.binds (ps := ["step"]) fun _ _ _ _ _ _ us hl => match us, hl with | [_], _ => rfl
  have c__law_step_period : ∀ base : Heap, Can l.prog w K mg base 1 "_law_step_period" ["step"] (sp_law_step_period K) := fun base => .mk' F__law_step_period (ok_law_step_period F__law_step_period) b__law_step_period m__law_step_period
  obtain ⟨f__law_step, fd__law_step, F__law_step, m__law_step, kV__law_step, dc__law_step, pm__law_step, an__law_step, cd__law_step, ct__law_step, e__law_step⟩ := d__law_step.at' X G
  have b__law_step := F__law_step.binds (ps := ["bag", "limit"]) fun _ _ _ _ _ _ us hl => match us, hl with | [_, _], _ => rfl
  have c__law_step : ∀ base : Heap, Can l.prog w K mg base 3 "_law_step" ["bag", "limit"] (sp_law_step K) := fun base => .mk' F__law_step (ok_law_step F__law_step (c__law_take base) (c__law_far_draw base) z_min) b__law_step m__law_step
  obtain ⟨f__law_pipeline, fd__law_pipeline, F__law_pipeline, m__law_pipeline, kV__law_pipeline, dc__law_pipeline, pm__law_pipeline, an__law_pipeline, cd__law_pipeline, ct__law_pipeline, e__law_pipeline⟩ := d__law_pipeline.at' X G
  have b__law_pipeline := F__law_pipeline.binds (ps := ["bag", "most", "limit"]) fun _ _ _ _ _ _ us hl => match us, hl with | [_, _, _], _ => rfl
  have c__law_pipeline : ∀ base : Heap, Can l.prog w K mg base 4 "_law_pipeline" ["bag", "most", "limit"] (sp_law_pipeline K) := fun base => .mk' F__law_pipeline (ok_law_pipeline F__law_pipeline (c__law_take base) (c__law_step_period base) (c__law_step base) z_tuple z_range) b__law_pipeline m__law_pipeline
  obtain ⟨f__law_integer, fd__law_integer, F__law_integer, m__law_integer, kV__law_integer, dc__law_integer, pm__law_integer, an__law_integer, cd__law_integer, ct__law_integer, e__law_integer⟩ := d__law_integer.at' X G
  have b__law_integer := F__law_integer.binds (ps := ["bag"]) fun _ _ _ _ _ _ us hl => match us, hl with | [_], _ => rfl
  have c__law_integer : ∀ base : Heap, Can l.prog w K mg base 3 "_law_integer" ["bag"] (sp_law_integer K) := fun base => .mk' F__law_integer (ok_law_integer F__law_integer (c__law_take base) (c__law_far_draw base)) b__law_integer m__law_integer
  obtain ⟨f__law_apply_step, fd__law_apply_step, F__law_apply_step, m__law_apply_step, kV__law_apply_step, dc__law_apply_step, pm__law_apply_step, an__law_apply_step, cd__law_apply_step, ct__law_apply_step, e__law_apply_step⟩ := d__law_apply_step.at' X G
  have b__law_apply_step := F__law_apply_step.binds (ps := ["step", "x"]) fun _ _ _ _ _ _ us hl => match us, hl with | [_, _], _ => rfl
  have c__law_apply_step : ∀ base : Heap, Can l.prog w K mg base 1 "_law_apply_step" ["step", "x"] (sp_law_apply_step K) := fun base => .mk' F__law_apply_step (ok_law_apply_step F__law_apply_step) b__law_apply_step m__law_apply_step
  obtain ⟨f_law, fd_law, F_law, m_law, kV_law, dc_law, pm_law, an_law, cd_law, ct_law, e_law⟩ := d_law.at' X G
  have ee := hfa.symm.trans m_law
  cases ee
  subst e_law
  exact ⟨_, fun s v => .of_eq rfl, fun base _ _ => ok_law F_law (c_apply base) (c_trace base) (c__law_bags base) (c__law_apply_step base) (c__law_take base) (c__law_integer base) (c__law_pipeline base) z_range z_isinstance z_list⟩
end
end My
open PySem PySem.W PyProof.Rows
set_option maxRecDepth 100000 in
set_option maxHeartbeats 0 in
theorem PySem.Challenge.cw_stepscale_k02_values_of_pipelines_holds : PySem.Challenge.rw_stepscale_k02_values_of_pipelines.Holds := by
  w_on; o_law; k_head; (case hw => w_witness2)
  k_fill
  refine L2.walk_of (l := PySem.Challenge.rw_stepscale_k02_values_of_pipelines) (n := 63) (k := 6) (x := "script") (CX := fun _ => L2.CX0) (sp := fun w => My.sp_law _) rfl (by decide) rfl ⟨rfl, by decide, by decide⟩ (fun w h Y => PySem.W.kIn_of Y) ?F (fun _ _ a ns hl _ hS => ⟨a, ns, rfl, hS, fun _ => rfl⟩) (fun _ _ _ _ _ h => h)
  case F =>
    intro w mg fa h KX G hmg
    refine' My.all_mk KX G hmg ?d_is_integer ?d_is_step ?d_step_period ?d_is_pipeline ?d_need_pipeline ?d_need_integer ?d_step_value ?d_value_at ?d_apply ?d_trace ?d__law_cell_at ?d__law_draws ?d__law_bag ?d__law_bags ?d__law_take ?d__law_far_draw ?d__law_step_period ?d__law_step ?d__law_pipeline ?d__law_integer ?d__law_apply_step ?d_law ?y_isinstance ?y_bool ?y_int ?y_len ?y_str ?y_tuple ?y_all ?y_range ?y_max ?y_min ?y_list ?q_OFFSET_BOUND ?q_MAX_PERIOD ?q_MAX_STEPS ?q_BOUND
    (case d_is_integer => (refine' My.DefIn.mk' ?a ?l ?c ?k; (case a => k_is); (case l => k_is); (case c => k_is); (case k => k_is)))
    (case d_is_step => (refine' My.DefIn.mk' ?a ?l ?c ?k; (case a => k_is); (case l => k_is); (case c => k_is); (case k => k_is)))
    (case d_step_period => (refine' My.DefIn.mk' ?a ?l ?c ?k; (case a => k_is); (case l => k_is); (case c => k_is); (case k => k_is)))
    (case d_is_pipeline => (refine' My.DefIn.mk' ?a ?l ?c ?k; (case a => k_is); (case l => k_is); (case c => k_is); (case k => k_is)))
    (case d_need_pipeline => (refine' My.DefIn.mk' ?a ?l ?c ?k; (case a => k_is); (case l => k_is); (case c => k_is); (case k => k_is)))
    (case d_need_integer => (refine' My.DefIn.mk' ?a ?l ?c ?k; (case a => k_is); (case l => k_is); (case c => k_is); (case k => k_is)))
    (case d_step_value => (refine' My.DefIn.mk' ?a ?l ?c ?k; (case a => k_is); (case l => k_is); (case c => k_is); (case k => k_is)))
    (case d_value_at => (refine' My.DefIn.mk' ?a ?l ?c ?k; (case a => k_is); (case l => k_is); (case c => k_is); (case k => k_is)))
    (case d_apply => (refine' My.DefIn.mk' ?a ?l ?c ?k; (case a => k_is); (case l => k_is); (case c => k_is); (case k => k_is)))
    (case d_trace => (refine' My.DefIn.mk' ?a ?l ?c ?k; (case a => k_is); (case l => k_is); (case c => k_is); (case k => k_is)))
    (case d__law_cell_at => (refine' My.DefIn.mk' ?a ?l ?c ?k; (case a => k_is); (case l => k_is); (case c => k_is); (case k => k_is)))
    (case d__law_draws => (refine' My.DefIn.mk' ?a ?l ?c ?k; (case a => k_is); (case l => k_is); (case c => k_is); (case k => k_is)))
    (case d__law_bag => (refine' My.DefIn.mk' ?a ?l ?c ?k; (case a => k_is); (case l => k_is); (case c => k_is); (case k => k_is)))
    (case d__law_bags => (refine' My.DefIn.mk' ?a ?l ?c ?k; (case a => k_is); (case l => k_is); (case c => k_is); (case k => k_is)))
    (case d__law_take => (refine' My.DefIn.mk' ?a ?l ?c ?k; (case a => k_is); (case l => k_is); (case c => k_is); (case k => k_is)))
    (case d__law_far_draw => (refine' My.DefIn.mk' ?a ?l ?c ?k; (case a => k_is); (case l => k_is); (case c => k_is); (case k => k_is)))
    (case d__law_step_period => (refine' My.DefIn.mk' ?a ?l ?c ?k; (case a => k_is); (case l => k_is); (case c => k_is); (case k => k_is)))
    (case d__law_step => (refine' My.DefIn.mk' ?a ?l ?c ?k; (case a => k_is); (case l => k_is); (case c => k_is); (case k => k_is)))
    (case d__law_pipeline => (refine' My.DefIn.mk' ?a ?l ?c ?k; (case a => k_is); (case l => k_is); (case c => k_is); (case k => k_is)))
    (case d__law_integer => (refine' My.DefIn.mk' ?a ?l ?c ?k; (case a => k_is); (case l => k_is); (case c => k_is); (case k => k_is)))
    (case d__law_apply_step => (refine' My.DefIn.mk' ?a ?l ?c ?k; (case a => k_is); (case l => k_is); (case c => k_is); (case k => k_is)))
    (case d_law => (refine' My.DefIn.mk' ?a ?l ?c ?k; (case a => k_is); (case l => k_is); (case c => k_is); (case k => k_is)))
    (case y_isinstance => k_is)
    (case y_bool => k_is)
    (case y_int => k_is)
    (case y_len => k_is)
    (case y_str => k_is)
    (case y_tuple => k_is)
    (case y_all => k_is)
    (case y_range => k_is)
    (case y_max => k_is)
    (case y_min => k_is)
    (case y_list => k_is)
    (case q_OFFSET_BOUND => k_is)
    (case q_MAX_PERIOD => k_is)
    (case q_MAX_STEPS => k_is)
    (case q_BOUND => k_is)
