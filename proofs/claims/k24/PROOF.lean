import PyProof.Rows.All
import Wide.All
import OpenK.AllK
import Wide.FinOn
import HandS.ForMost
import HandS.IsInst
import HandS.TupAny
import HandS.Style
import HandS.Wide
import HandS.SetFor
import PyProof.SumWalkG
import HandS.Codes
import HandS.Conv
import KE.KDictPairs
import KE.SortData
import HandS.Deep
import HandS.TupSets
import PySem.Challenge.RW_stepscale_k24_whole_worked_examples
set_option Elab.async false
set_option linter.all false
set_option maxRecDepth 100000
set_option maxHeartbeats 40000000
set_option autoImplicit false
namespace My
open PySem L2

/-! ### heaps -/
theorem Same.up {H H1 : Hp} {p : Addr} {o : HO} (h : Same H H1) (n : H1 p = none) : Same H (L2.upd H1 p o) := fun b x e => by
  rw [upd_ne (ne_of_none (h b x e) n)]; exact h b x e
theorem Same.upN {H H1 : Hp} {p : Addr} {o : HO} (h : Same H H1) (n : H p = none) : Same H (L2.upd H1 p o) := fun b x e => by
  rw [upd_ne (ne_of_none e n)]; exact h b x e
theorem Rd.same {H H' : Hp} {a : Addr} {u : HO} (e : Same H H') (h : Rd H a u) : Rd H' a u := by
  rcases h with h | ⟨o, h⟩
  · exact .inl (e _ _ h)
  · exact .inr ⟨o, e _ _ h⟩
theorem SqL.same {K : PySem.W.Frag} {H H' : Hp} {a : Addr} {xs : List V} (e : Same H H') (h : SqL K H a xs) : SqL K H' a xs := e.seq h
theorem SqT.same {K : PySem.W.Frag} {H H' : Hp} {a : Addr} {xs : List V} (e : Same H H') (h : SqT K H a xs) : SqT K H' a xs := by
  rcases h with h | h
  · exact .inl (Rd.same e h)
  · exact .inr h
/-- tuples stay where a list is written -/
theorem SqT.updL {K : PySem.W.Frag} {H : Hp} {a l : Addr} {xs ys : List V} {o : HO} (h : SqT K H a xs) (hl : H l = some (.lst ys)) : SqT K (L2.upd H l o) a xs := by
  rcases h with (h | ⟨ob, h⟩) | h
  · exact .inl (.inl (by rw [upd_ne (ne_of h hl (by intro z; cases z))]; exact h))
  · exact .inl (.inr ⟨ob, by rw [upd_ne (ne_of h hl (by intro z; cases z))]; exact h⟩)
  · exact .inr h
theorem SqT.new {K : PySem.W.Frag} {H : Hp} {a : Addr} {xs : List V} : SqT K (L2.upd H a (.tup xs)) a xs := SqT.of upd_same
theorem SqL.new {K : PySem.W.Frag} {H : Hp} {a : Addr} {xs : List V} : SqL K (L2.upd H a (.lst xs)) a xs := SqL.of upd_same
mutual
theorem Dp.same {K : PySem.W.Frag} {H H' : Hp} (e : Same H H') : ∀ {v : V} {d : PyData}, Dp K H v d → Dp K H' v d
  | _, _, .non => .non
  | _, _, .bl b => .bl b
  | _, _, .int i => .int i
  | _, _, .str x => .str x
  | _, _, .lst h a => .lst (e.seq h) (DpAll.same e a)
  | _, _, .tup h a => .tup (SqT.same e h) (DpAll.same e a)
theorem DpAll.same {K : PySem.W.Frag} {H H' : Hp} (e : Same H H') : ∀ {v : List V} {d : List PyData}, DpAll K H v d → DpAll K H' v d
  | _, _, .nil => .nil
  | _, _, .cons h t => .cons (Dp.same e h) (DpAll.same e t)
end

/-! ### calls -/
structure Can (P : Program) (w : World) (K : PySem.W.Frag) (mg : Str → Option Value) (base : Heap) (k : Nat) (x : Str) (ps : List Str) (sp : Sp) : Prop where
  ex : ∃ f fd, FnOk P w K mg base CX0 k f fd ps sp ∧ Binds K fd ps [] ∧ mg x = some (.ref f) ∧ PySem.W.keepIn K (.ref f) = true
theorem Can.mk' {P : Program} {w : World} {K : PySem.W.Frag} {mg : Str → Option Value} {base : Heap} {k : Nat} {x : Str} {ps : List Str} {sp : Sp} {f : Addr} {fd : FuncData} {q : Str} {st : Stmt}
    (F : Fun K x q st f fd) (G : FnOk P w K mg base CX0 k f fd ps sp) (b : Binds K fd ps []) (m : mg x = some (.ref f)) : Can P w K mg base k x ps sp := ⟨f, fd, G, b, m, F.kp⟩
/-- a module's int -/
def KInt (mg : Str → Option Value) (x : Str) (i : Int) : Prop := ∃ t, mg x = some (.int i t)
section
variable {X : Cx} {k : Nat} {x : Str} {ps : List Str} {sp : Sp} {p pos : Pos} {e : Expr} {es : List Expr} {t : TA}
def tCan (sp : Sp) (t : TA) : TE := fun σ H Q => t σ H fun vs H1 => sp vs H1 Q E0
theorem pe_can (C : Can X.prog X.w X.K X.mg X.base k x ps sp) (hr : Room k X.A) (hg : Gl X x) (ha : PA X (e :: es) t) (hdb : (x == ("__debug__" : Str)) = false := by decide)
    (hs : starEach (e :: es) X.env = (false, eval e X.env) :: starEach es X.env := by rfl) (hpl : (backTo pos (starEach es X.env)).any (·.1) = false := by rfl) : PE X (.Call (.Name x p) (e :: es) [] pos) (tCan sp t) := by
  obtain ⟨f, fd, F, b, m, kp⟩ := C.ex
  refine ⟨fun pins s σ H Q I h => ?_⟩
  exact (pe_call F hr hg m kp b .nil pass0 ha hdb hs hpl).run pins s σ H Q I (by
    show t σ H fun vs H1 => sp (vs ++ []) H1 Q E0
    simp only [List.append_nil]
    exact h)
theorem pe_k {i : Int} (hg : Gl X x) (g : KInt X.mg x i) (hd : (x == ("__debug__" : Str)) = false := by decide) : PE X (.Name x pos) (tC (.int i)) := by
  obtain ⟨t, h⟩ := g
  exact pe_glob hg h ⟨t, rfl⟩ hd
end

/-! ### readings by name -/
def nLen (K : PySem.W.Frag) : List V → Hp → VK → Prop := fun xs H Q => ∃ p ys, xs = [.ref p] ∧ (SqL K H p ys ∨ SqT K H p ys) ∧ Q (.int ys.length) H
def nInt : List V → Hp → VK → Prop := fun xs H Q => (∃ i, xs = [.int i] ∧ Q (.int i) H) ∨ ∃ k, xs = [.bl k] ∧ Q (.int (if k then 1 else 0)) H
def nAbs : List V → Hp → VK → Prop := fun xs H Q => ∃ i, xs = [.int i] ∧ Q (.int (if i < 0 then -i else i)) H
def nMax : List V → Hp → VK → Prop := fun xs H Q => ∃ i j, xs = [.int i, .int j] ∧ Q (.int (if j > i then j else i)) H
def nMin : List V → Hp → VK → Prop := fun xs H Q => ∃ i j, xs = [.int i, .int j] ∧ Q (.int (if j < i then j else i)) H
def nTup (K : PySem.W.Frag) : List V → Hp → VK → Prop := fun xs H Q => ∃ p ys, xs = [.ref p] ∧ ((SqL K H p ys ∧ ∀ l, H l = none → Q (.ref l) (L2.upd H l (.tup ys))) ∨ (SqT K H p ys ∧ Q (.ref p) H))
def nLst (K : PySem.W.Frag) : List V → Hp → VK → Prop := fun xs H Q => ∃ p ys, xs = [.ref p] ∧ (SqL K H p ys ∨ SqT K H p ys) ∧ ∀ l, H l = none → Q (.ref l) (L2.upd H l (.lst ys))
section
variable {X : Cx}
theorem kint1 : CallR X (.type "int") nInt := call_int1
theorem kabs : CallR X (.builtin "abs") nAbs := call_abs
theorem kmax2 (hc : X.calm = true := by rfl) : CallR X (.builtin "max") nMax := call_max2 hc
theorem kmin2 (hc : X.calm = true := by rfl) : CallR X (.builtin "min") nMin := call_min2 hc
end
section
variable {H : Hp} {Q : VK} {K : PySem.W.Frag}
theorem r_lenL {p : Addr} {ys : List V} (h : SqL K H p ys) (q : Q (.int ys.length) H) : nLen K [.ref p] H Q := ⟨p, ys, rfl, .inl h, q⟩
theorem r_lenT {p : Addr} {ys : List V} (h : SqT K H p ys) (q : Q (.int ys.length) H) : nLen K [.ref p] H Q := ⟨p, ys, rfl, .inr h, q⟩
theorem r_inti {i : Int} (q : Q (.int i) H) : nInt [.int i] H Q := .inl ⟨i, rfl, q⟩
theorem r_intb {k : Bool} (q : Q (.int (if k then 1 else 0)) H) : nInt [.bl k] H Q := .inr ⟨k, rfl, q⟩
theorem r_abs {i : Int} (q : Q (.int (if i < 0 then -i else i)) H) : nAbs [.int i] H Q := ⟨i, rfl, q⟩
theorem r_max2 {i j : Int} (q : Q (.int (if j > i then j else i)) H) : nMax [.int i, .int j] H Q := ⟨i, j, rfl, q⟩
theorem r_min2 {i j : Int} (q : Q (.int (if j < i then j else i)) H) : nMin [.int i, .int j] H Q := ⟨i, j, rfl, q⟩
theorem r_tupL {p : Addr} {ys : List V} (h : SqL K H p ys) (q : ∀ l, H l = none → Q (.ref l) (L2.upd H l (.tup ys))) : nTup K [.ref p] H Q := ⟨p, ys, rfl, .inl ⟨h, q⟩⟩
theorem r_tupT {p : Addr} {ys : List V} (h : SqT K H p ys) (q : Q (.ref p) H) : nTup K [.ref p] H Q := ⟨p, ys, rfl, .inr ⟨h, q⟩⟩
theorem r_lstL {p : Addr} {ys : List V} (h : SqL K H p ys) (q : ∀ l, H l = none → Q (.ref l) (L2.upd H l (.lst ys))) : nLst K [.ref p] H Q := ⟨p, ys, rfl, .inl h, q⟩
theorem r_lstT {p : Addr} {ys : List V} (h : SqT K H p ys) (q : ∀ l, H l = none → Q (.ref l) (L2.upd H l (.lst ys))) : nLst K [.ref p] H Q := ⟨p, ys, rfl, .inr h, q⟩
end

/-! ### readings, from the left -/
section
variable {σ : St} {H : Hp} {Q : VK} {K : PySem.W.Frag} {D : Ends}
theorem r_var {i : Nat} {v : V} (e : σ[i]? = some (some v)) (h : Q v H) : tVar i σ H Q := ⟨v, e, h⟩
theorem r_c {v : V} (h : Q v H) : tC v σ H Q := h
theorem r_op {r : R2} {ta tb : TE} (h : ta σ H fun x H1 => tb σ H1 fun y H2 => r x y H2 Q) : tOp r ta tb σ H Q := h
theorem r_un {r : V → Hp → VK → Prop} {ta : TE} (h : ta σ H fun x H1 => r x H1 Q) : tUn r ta σ H Q := h
theorem r_i0 {g : Int → Int → V} {i j : Int} (h : Q (g i j) H) : rI0 g (.int i) (.int j) H Q := ⟨i, j, rfl, rfl, h⟩
theorem r_mul {g : Int → Int → V} {i j : Int} (c : CMul i j) (h : Q (g i j) H) : rI CMul g (.int i) (.int j) H Q := ⟨i, j, rfl, rfl, c, h⟩
theorem r_div {g : Int → Int → V} {i j : Int} (c : CDiv i j) (h : Q (g i j) H) : rI CDiv g (.int i) (.int j) H Q := ⟨i, j, rfl, rfl, c, h⟩
theorem r_divN {g : Int → Int → V} {i j : Int} (c : CDivN i j) (h : Q (g i j) H) : rI CDivN g (.int i) (.int j) H Q := ⟨i, j, rfl, rfl, c, h⟩
theorem r_pow {g : Int → Int → V} {i j : Int} (c : CPow i j) (h : Q (g i j) H) : rI CPow g (.int i) (.int j) H Q := ⟨i, j, rfl, rfl, c, h⟩
theorem r_mod {g : Int → Int → V} {i j : Int} (c : 0 < j) (h : Q (g i j) H) : rI (fun _ j => 0 < j) g (.int i) (.int j) H Q := ⟨i, j, rfl, rfl, c, h⟩
theorem r_modN {g : Int → Int → V} {i j : Int} (c : j ≠ 0) (h : Q (g i j) H) : rI (fun _ j => j ≠ 0) g (.int i) (.int j) H Q := ⟨i, j, rfl, rfl, c, h⟩
theorem r_u {g : Int → V} {i : Int} (h : Q (g i) H) : rU g (.int i) H Q := ⟨i, rfl, h⟩
theorem r_eq {x y : V} (c : scal x y = true) (h : Q (.bl (decide (x = y))) H) : rEq x y H Q := ⟨c, h⟩
theorem r_ne {x y : V} (c : scal x y = true) (h : Q (.bl (!decide (x = y))) H) : rNe x y H Q := ⟨c, h⟩
theorem r_test {t : TE} {Q : Bool → Hp → Prop} (h : t σ H fun x H' => ∃ k, x = .bl k ∧ Q k H') : tTest t σ H Q := h
theorem r_b {t : TE} {Q : Bool → Hp → Prop} (h : t σ H fun x H' => ∃ k, x = .bl k ∧ Q k H') : tB t σ H Q := h
theorem r_exb {b : Bool} {Q : Bool → Prop} (h : Q b) : ∃ k, V.bl b = .bl k ∧ Q k := ⟨b, rfl, h⟩
theorem r_exi {b : Int} {Q : Int → Prop} (h : Q b) : ∃ k, V.int b = .int k ∧ Q k := ⟨b, rfl, h⟩
theorem r_and {t u : TT} {Q : Bool → Hp → Prop} (h : t σ H fun c H1 => if c = true then u σ H1 Q else Q false H1) : tAnd t u σ H Q := h
theorem r_or {t u : TT} {Q : Bool → Hp → Prop} (h : t σ H fun c H1 => if c = true then Q true H1 else u σ H1 Q) : tOr t u σ H Q := h
theorem r_not {t : TT} {Q : Bool → Hp → Prop} (h : t σ H fun c H1 => Q (!c) H1) : tNot t σ H Q := h
theorem r_andV {ta tb : TE} (h : ta σ H fun x H1 => ∃ c, x = .bl c ∧ if c = true then tb σ H1 Q else Q (.bl false) H1) : tAndV ta tb σ H Q := h
theorem r_orV {ta tb : TE} (h : ta σ H fun x H1 => ∃ c, x = .bl c ∧ if c = true then Q (.bl true) H1 else tb σ H1 Q) : tOrV ta tb σ H Q := h
theorem r_notV {ta : TE} (h : ta σ H fun x H1 => ∃ c, x = .bl c ∧ Q (.bl (!c)) H1) : tNotV ta σ H Q := h
theorem r_if {t : TT} {ta tb : TE} (h : t σ H fun c H1 => if c = true then ta σ H1 Q else tb σ H1 Q) : tIf t ta tb σ H Q := h
theorem r_chain {r r' : R2} {ta tb tc : TE} (h : ta σ H fun x H1 => tb σ H1 fun y H2 => r x y H2 fun z H3 => ∃ k, z = .bl k ∧ (if k = true then tc σ H3 fun u H4 => r' y u H4 Q else Q (.bl false) H3)) : tChain r r' ta tb tc σ H Q := by
  first | exact h | (unfold tChain; exact h)
theorem r_cons {ta : TE} {tr : TA} {Q : List V → Hp → Prop} (h : ta σ H fun x H1 => tr σ H1 fun xs H2 => Q (x :: xs) H2) : tCons ta tr σ H Q := h
theorem r_nil {Q : List V → Hp → Prop} (h : Q [] H) : tNil σ H Q := h
theorem r_tup {t : TA} (h : t σ H fun xs H1 => xs.length ≤ sizeLine ∧ ∀ p, H1 p = none → Q (.ref p) (L2.upd H1 p (.tup xs))) : tTup t σ H Q := h
theorem r_lst {t : TA} (h : t σ H fun xs H1 => xs.length ≤ sizeLine ∧ ∀ p, H1 p = none → Q (.ref p) (L2.upd H1 p (.lst xs))) : tLst t σ H Q := h
theorem r_small {A : Prop} {xs : List V} {n : Nat} (e : xs.length ≤ n) (h : n ≤ sizeLine) (a : A) : xs.length ≤ sizeLine ∧ A := ⟨Nat.le_trans e h, a⟩
theorem r_can {sp : Sp} {t : TA} (h : t σ H fun vs H1 => sp vs H1 Q E0) : tCan sp t σ H Q := h
theorem r_cb {r : List V → Hp → VK → Prop} {t : TA} (h : t σ H fun vs H1 => r vs H1 Q) : tCB r t σ H Q := h
theorem r_ixT {p : Addr} {xs : List V} {i : Int} {v : V} (h : SqT K H p xs) (e : atI xs i = some v) (q : Q v H) : rIxT K (.ref p) (.int i) H Q := ⟨p, xs, i, v, rfl, rfl, h, e, q⟩
theorem r_ixL {p : Addr} {xs : List V} {i : Int} {v : V} (h : SqL K H p xs) (e : atI xs i = some v) (q : Q v H) : rIxL K (.ref p) (.int i) H Q := ⟨p, xs, i, v, rfl, rfl, h, e, q⟩
theorem r_ix {x y : V} (q : rIxL K x y H Q ∨ rIxT K x y H Q ∨ rIxS x y H Q) : rIx K x y H Q := q
theorem r_bm {T : String} {r : V → List V → Hp → VK → Prop} {to : TE} {t : TA} (h : to σ H fun x H1 => tyV K T x H1 ∧ t σ H1 fun xs H2 => r x xs H2 Q) : tBM K T r to t σ H Q := h
theorem r_bm0 {T : String} {r : V → List V → Hp → VK → Prop} {to : TE} (h : to σ H fun x H1 => tyV K T x H1 ∧ r x [] H1 Q) : tBM0 K T r to σ H Q := h
theorem r_append {l : Addr} {xs : List V} {y : V} (h : H l = some (.lst xs)) (s : xs.length < sizeLine) (q : Q .non (L2.upd H l (.lst (xs ++ [y])))) : rAppend (.ref l) [y] H Q := ⟨l, xs, y, rfl, rfl, h, s, q⟩
/-- statements -/
theorem s_seq {t u : TS} (h : t { D with nx := u D } σ H) : tSeq t u D σ H := h
theorem s_next (h : D.nx σ H) : tNext D σ H := h
theorem s_asg {te : TE} {g : TG} (h : te σ H fun x H1 => g x σ H1 D.nx) : tAsg te g D σ H := h
theorem s_name {i : Nat} {v : V} {Q : St → Hp → Prop} (h : Q (σ.set i (some v)) H) : gName i v σ H Q := h
theorem s_par {i j : Nat} {ta : TA} (h : ta σ H fun vs H1 => ∃ v w, vs = [v, w] ∧ D.nx ((σ.set i (some v)).set j (some w)) H1) : tPar i j ta D σ H := h
theorem s_par2 {v w : V} {A : V → V → Prop} (h : A v w) : ∃ v' w', [v, w] = [v', w'] ∧ A v' w' := ⟨v, w, rfl, h⟩
theorem s_drop {te : TE} (h : te σ H fun _ H1 => D.nx σ H1) : tDrop te D σ H := h
theorem s_ret {te : TE} (h : te σ H D.rt) : tRet te D σ H := h
theorem s_retN (h : D.rt .non H) : tRetN D σ H := h
theorem s_if {c : TT} {t u : TS} (h : c σ H fun b H1 => if b = true then t D σ H1 else u D σ H1) : tIfS c t u D σ H := h
theorem s_tupT {p : Addr} {xs : List V} {n : Nat} {t : TGs} {Q : St → Hp → Prop} (h : SqT K H p xs) (e : xs.length = n) (q : t xs σ H Q) : gTup K n t (.ref p) σ H Q := ⟨p, xs, rfl, h, e, q⟩
theorem s_gcons {t : TG} {u : TGs} {v : V} {r : List V} {Q : St → Hp → Prop} (h : t v σ H fun σ' H' => u r σ' H' Q) : gCons t u (v :: r) σ H Q := ⟨v, r, rfl, h⟩
theorem s_gnil {Q : St → Hp → Prop} (h : Q σ H) : gNil [] σ H Q := ⟨rfl, h⟩
theorem ifb {c A B : Prop} [Decidable c] (h1 : c → A) (h2 : ¬ c → B) : if decide c = true then A else B := by
  by_cases h : c
  · rw [decide_eq_true h]; exact iteT (h1 h)
  · rw [decide_eq_false h]; exact iteF (h2 h)
theorem ifnb {c A B : Prop} [Decidable c] (h1 : ¬ c → A) (h2 : c → B) : if (!decide c) = true then A else B := by
  by_cases h : c
  · rw [decide_eq_true h]; exact iteF (h2 h)
  · rw [decide_eq_false h]; exact iteT (h1 h)
theorem ifB {c : Bool} {A B : Prop} (h1 : c = true → A) (h2 : c = false → B) : if c = true then A else B := by
  cases c
  · exact iteF (h2 rfl)
  · exact iteT (h1 rfl)
theorem dec_vint {i j : Int} {A B : Prop} (h : if decide (i = j) = true then A else B) : if decide (V.int i = V.int j) = true then A else B := by
  have e : decide (V.int i = V.int j) = decide (i = j) := by
    by_cases q : i = j
    · subst q; simp
    · rw [decide_eq_false q, decide_eq_false (fun z => q (V.int.inj z))]
  rw [e]; exact h
theorem dec_vintn {i j : Int} {A B : Prop} (h : if (!decide (i = j)) = true then A else B) : if (!decide (V.int i = V.int j)) = true then A else B := by
  have e : decide (V.int i = V.int j) = decide (i = j) := by
    by_cases q : i = j
    · subst q; simp
    · rw [decide_eq_false q, decide_eq_false (fun z => q (V.int.inj z))]
  rw [e]; exact h
end
theorem sz_le {n : Nat} (h : n ≤ 16777216) : n ≤ sizeLine := by rw [PySem.sizeLine_eq]; exact h
theorem sz_lt {n : Nat} (h : n < 16777216) : n < sizeLine := by rw [PySem.sizeLine_eq]; exact h

/-! ### the rules with K said -/
section
variable {X : Cx} (K : PySem.W.Frag)
theorem kix_list (h : X.K = K := by rfl) : IxR X (rIxL K) := by subst h; exact ix_list
theorem kix_tup (h : X.K = K := by rfl) : IxR X (rIxT K) := by subst h; exact ix_tup
theorem kix_seq (h : X.K = K := by rfl) : IxR X (rIx K) := by subst h; exact ix_seq
theorem klen (h : X.K = K := by rfl) : CallR X (.builtin "len") (nLen K) := by subst h; exact call_len_seq
theorem ksl_tup (h : X.K = K := by rfl) : SlR X (rSlT K) := by subst h; exact sl_tup
theorem ksl_list (h : X.K = K := by rfl) : SlR X (rSlL K) := by subst h; exact sl_list
theorem keqD (hu : X.A.units + 64 < cLine) (h : X.K = K := by rfl) : OpR X (compareOp .Eq) (rEqD K) := by subst h; exact op_eqD hu
theorem kneD (hu : X.A.units + 64 < cLine) (h : X.K = K := by rfl) : OpR X (compareOp .NotEq) (rNeD K) := by subst h; exact op_neD hu
theorem kisi (h : X.K = K := by rfl) : CallR X (.builtin "isinstance") (rIsi K) := by subst h; exact call_isi
theorem kall (hc : X.calm = true := by rfl) (h : X.K = K := by rfl) : CallR X (.builtin "all") (rAll K) := by subst h; exact cr_all hc
theorem ksum (hc : X.calm = true := by rfl) (h : X.K = K := by rfl) : CallR X (.builtin "sum") (rSum K) := by subst h; exact cr_sum hc
theorem kmax (hc : X.calm = true := by rfl) (h : X.K = K := by rfl) : CallR X (.builtin "max") (rMax K) := by subst h; exact cr_max hc
theorem kmin (hc : X.calm = true := by rfl) (h : X.K = K := by rfl) : CallR X (.builtin "min") (rMin K) := by subst h; exact cr_min hc
theorem kin (h : X.K = K := by rfl) : OpR X (compareOp .In) (rIn K false) := by subst h; exact op_in_seq
theorem knotIn (h : X.K = K := by rfl) : OpR X (compareOp .NotIn) (rIn K true) := by subst h; exact op_notIn_seq
theorem kcatT (h : X.K = K := by rfl) : OpR X (binaryOp .Add) (rCatT K) := by subst h; exact op_catT
theorem klist_of (h : X.K = K := by rfl) : CallR X (.type "list") (nLst K) := by subst h; exact call_list_of
theorem ktuple_of (h : X.K = K := by rfl) : CallR X (.type "tuple") (nTup K) := by subst h; exact call_tuple_of
theorem kpi_list {tg l : Expr} {tl : TE} (hl : PE X l tl) (h : X.K = K := by rfl) : PI X tg l (iList K tl) := by subst h; exact pi_list hl
theorem kpi_tup {tg l : Expr} {tl : TE} (hl : PE X l tl) (h : X.K = K := by rfl) : PI X tg l (iTup K tl) := by subst h; exact pi_tup hl
theorem kpg_tup {es : List Expr} {k : Nat} {t : TGs} {n : Nat} {pos : Pos} (h : PGs X es t) (hc : X.calm = true := by rfl) (hn : (assignEach es X.env).length = n := by rfl) (hst : (assignEach es X.env).findIdx? (·.1) = none := by rfl) (hK : X.K = K := by rfl) :
    PG X (.Tuple es k pos) (gTup K n t) := by subst hK; exact pg_tup hc h hn hst
end

theorem iteD {c A B : Prop} [Decidable c] (e : decide c = true) (h : A) : if decide c = true then A else B := by rw [e]; exact iteT h
theorem iteDF {c A B : Prop} [Decidable c] (e : decide c = false) (h : B) : if decide c = true then A else B := by rw [e]; exact iteF h
theorem iteND {c A B : Prop} [Decidable c] (e : decide c = true) (h : B) : if (!decide c) = true then A else B := by rw [e]; exact iteF h
theorem iteNDF {c A B : Prop} [Decidable c] (e : decide c = false) (h : A) : if (!decide c) = true then A else B := by rw [e]; exact iteT h
theorem ifNB {c : Bool} {A B : Prop} (h1 : c = false → A) (h2 : c = true → B) : if (!c) = true then A else B := by
  cases c
  · exact iteT (h1 rfl)
  · exact iteF (h2 rfl)
theorem iteNF {A B : Prop} (h : B) : if (!true) = true then A else B := iteF h
theorem iteNT {A B : Prop} (h : A) : if (!false) = true then A else B := iteT h
theorem qint {Q : VK} {i j : Int} {H : Hp} (e : i = j) (h : Q (.int j) H) : Q (.int i) H := e ▸ h
theorem qbl {Q : VK} {i j : Bool} {H : Hp} (e : i = j) (h : Q (.bl j) H) : Q (.bl i) H := e ▸ h
theorem scE1 : decide (V.str "scale" = V.str "scale") = true := by decide +kernel
theorem scE2 : decide (V.str "even" = V.str "scale") = false := by decide +kernel
theorem scE3 : decide (V.str "scale" = V.str "even") = false := by decide +kernel
theorem scE4 : decide (V.str "even" = V.str "even") = true := by decide +kernel
/-! ### isinstance -/
def tyD : PyData → String
  | .none => "NoneType" | .bool _ => "bool" | .int _ => "int" | .str _ => "str" | .list _ => "list" | .tuple _ => "tuple" | .dict _ => "dict"
theorem Dp.ty {K : PySem.W.Frag} {H : Hp} {v : V} {d : PyData} (h : Dp K H v d) : TyX K H v (.type (tyD d)) := by
  cases h with
  | non => exact .base .non
  | bl b => exact .base (.bl b)
  | int i => exact .base (.int i)
  | str x => exact .base (.str x)
  | lst h a =>
    rcases h with (h | ⟨o, h⟩) | ⟨o, its, n, h, c, _⟩
    · exact .base (.lst h)
    · exact .base (.frz h)
    · exact .kList h c
  | tup h a =>
    rcases h with (h | ⟨o, h⟩) | ⟨o, its, n, h, c, _⟩
    · exact .base (.tup h)
    · exact .fTuple h
    · exact .kTuple h c
section
variable {K : PySem.W.Frag} {H : Hp} {Q : VK}
theorem r_isi {v : V} {d : PyData} {T : String} {b : Bool} (h : Dp K H v d) (e : kitB (tyD d) T = some b) (q : Q (.bl b) H) : rIsi K [v, .ty T] H Q :=
  ⟨v, .ty T, _, _, b, rfl, .ty T, Dp.ty h, kit_ty e, q⟩
theorem r_eqD {x y : V} {d e : PyData} (hd : Dp K H x d) (he : Dp K H y e) (sd : SeqAt.shaped d = true) (se : SeqAt.shaped e = true) (q : Q (.bl (PyData.eqv d e)) H) : rEqD K x y H Q := ⟨d, e, hd, he, sd, se, q⟩
theorem r_neD {x y : V} {d e : PyData} (hd : Dp K H x d) (he : Dp K H y e) (sd : SeqAt.shaped d = true) (se : SeqAt.shaped e = true) (q : Q (.bl (!PyData.eqv d e)) H) : rNeD K x y H Q := ⟨d, e, hd, he, sd, se, q⟩
theorem r_all {a : Addr} {bs : List Bool} (h : SqL K H a (bs.map V.bl)) (q : Q (.bl (bs.all id)) H) : rAll K [.ref a] H Q := ⟨a, bs, rfl, h, q⟩
theorem r_sum {a : Addr} {ns : List Int} (h : SqL K H a (ns.map V.int)) (q : Q (.int ns.sum) H) : rSum K [.ref a] H Q := ⟨a, ns, rfl, h, q⟩
end

section
variable {K : PySem.W.Frag} {H : Hp} {Q : VK}
theorem r_isiT {v : V} {d : PyData} {T : String} (h : Dp K H v d) (e : kitB (tyD d) T = some true) (q : Q (.bl true) H) : rIsi K [v, .ty T] H Q := r_isi h e q
theorem r_isiF {v : V} {d : PyData} {T : String} (h : Dp K H v d) (e : kitB (tyD d) T = some false) (q : Q (.bl false) H) : rIsi K [v, .ty T] H Q := r_isi h e q
end
theorem DpAll.len {K : PySem.W.Frag} {H : Hp} : ∀ {vs : List V} {ds : List PyData}, DpAll K H vs ds → vs.length = ds.length
  | _, _, .nil => rfl
  | _, _, .cons _ t => by simp [DpAll.len t]
theorem DpAll.get {K : PySem.W.Frag} {H : Hp} : ∀ {vs : List V} {ds : List PyData} {i : Nat} {v : V}, DpAll K H vs ds → vs[i]? = some v → ∃ d, ds[i]? = some d ∧ Dp K H v d
  | _, _, _, _, .nil, e => by simp at e
  | _, _, 0, _, .cons r _, e => by simp at e; subst e; exact ⟨_, rfl, r⟩
  | _, _, i + 1, x, .cons _ t, e => by
    obtain ⟨u, h1, h2⟩ := DpAll.get (i := i) (v := x) t (by simpa using e)
    exact ⟨u, by simpa using h1, h2⟩
/-! ### what a step, a pipeline is, of any data -/
def isIntD : PyData → Int → Int → Bool
  | .int i, lo, hi => decide (lo ≤ i) && decide (i ≤ hi)
  | _, _, _ => false
def isStepD : PyData → Bool
  | .tuple (.str t :: r) => if t = "even" then (match r with | [a] => isIntD a 1 60 | _ => false) else
      if t = "scale" then (match r with | [a, b, c] => isIntD a 1 120 && isIntD b 1 120 && isIntD c (-1000000000) 1000000000 | _ => false) else false
  | _ => false
theorem kB_NoneType_int : kitB "NoneType" "int" = some false := by decide +kernel
theorem kB_NoneType_bool : kitB "NoneType" "bool" = some false := by decide +kernel
theorem kB_NoneType_str : kitB "NoneType" "str" = some false := by decide +kernel
theorem kB_NoneType_tuple : kitB "NoneType" "tuple" = some false := by decide +kernel
theorem kB_NoneType_list : kitB "NoneType" "list" = some false := by decide +kernel
theorem kB_bool_int : kitB "bool" "int" = some true := by decide +kernel
theorem kB_bool_bool : kitB "bool" "bool" = some true := by decide +kernel
theorem kB_bool_str : kitB "bool" "str" = some false := by decide +kernel
theorem kB_bool_tuple : kitB "bool" "tuple" = some false := by decide +kernel
theorem kB_bool_list : kitB "bool" "list" = some false := by decide +kernel
theorem kB_int_int : kitB "int" "int" = some true := by decide +kernel
theorem kB_int_bool : kitB "int" "bool" = some false := by decide +kernel
theorem kB_int_str : kitB "int" "str" = some false := by decide +kernel
theorem kB_int_tuple : kitB "int" "tuple" = some false := by decide +kernel
theorem kB_int_list : kitB "int" "list" = some false := by decide +kernel
theorem kB_str_int : kitB "str" "int" = some false := by decide +kernel
theorem kB_str_bool : kitB "str" "bool" = some false := by decide +kernel
theorem kB_str_str : kitB "str" "str" = some true := by decide +kernel
theorem kB_str_tuple : kitB "str" "tuple" = some false := by decide +kernel
theorem kB_str_list : kitB "str" "list" = some false := by decide +kernel
theorem kB_list_int : kitB "list" "int" = some false := by decide +kernel
theorem kB_list_bool : kitB "list" "bool" = some false := by decide +kernel
theorem kB_list_str : kitB "list" "str" = some false := by decide +kernel
theorem kB_list_tuple : kitB "list" "tuple" = some false := by decide +kernel
theorem kB_list_list : kitB "list" "list" = some true := by decide +kernel
theorem kB_tuple_int : kitB "tuple" "int" = some false := by decide +kernel
theorem kB_tuple_bool : kitB "tuple" "bool" = some false := by decide +kernel
theorem kB_tuple_str : kitB "tuple" "str" = some false := by decide +kernel
theorem kB_tuple_tuple : kitB "tuple" "tuple" = some true := by decide +kernel
theorem kB_tuple_list : kitB "tuple" "list" = some false := by decide +kernel
theorem r_eqNil1 {K : PySem.W.Frag} {H : Hp} {Q : VK} {a p : Addr} {d : PyData} {ds : List PyData} (h : Dp K H (.ref a) (.tuple (d :: ds))) (h0 : SqT K H p []) (s : SeqAt.shaped (.tuple (d :: ds)) = true) (q : Q (.bl false) H) : rEqD K (.ref a) (.ref p) H Q :=
  r_eqD h (Dp.tup h0 .nil) s rfl q
theorem r_eqNil0 {K : PySem.W.Frag} {H : Hp} {Q : VK} {a p : Addr} (h : Dp K H (.ref a) (.tuple [])) (h0 : SqT K H p []) (q : Q (.bl true) H) : rEqD K (.ref a) (.ref p) H Q :=
  r_eqD h (Dp.tup h0 .nil) rfl rfl q
theorem r_eqNil {K : PySem.W.Frag} {H : Hp} {Q : VK} {a p : Addr} {ds : List PyData} (h : Dp K H (.ref a) (.tuple ds)) (h0 : SqT K H p []) (s : SeqAt.shaped (.tuple ds) = true) (q : Q (.bl ds.isEmpty) H) : rEqD K (.ref a) (.ref p) H Q :=
  r_eqD h (Dp.tup h0 .nil) s rfl (by cases ds <;> exact q)
theorem decStr {x y : Str} (h : x = y) : decide (V.str x = V.str y) = true := by subst h; simp
theorem decStrN {x y : Str} (h : ¬ x = y) : decide (V.str x = V.str y) = false := decide_eq_false fun z => h (V.str.inj z)
theorem shaped_tup {ds : List PyData} : SeqAt.shaped (.tuple ds) = (PyData.canLayAll0 ds && decide (PyData.depthAll ds + 1 ≤ 64)) := by
  unfold SeqAt.shaped
  simp [PyData.canLay0, PyData.depth]
theorem shaped_mem : ∀ {ds : List PyData}, PyData.canLayAll0 ds = true → PyData.depthAll ds + 1 ≤ 64 → ∀ d ∈ ds, SeqAt.shaped d = true
  | [], _, _, d, h => by simp at h
  | x :: xs, h1, h2, d, h => by
    simp only [PyData.canLayAll0, Bool.and_eq_true] at h1
    simp only [PyData.depthAll] at h2
    rcases List.mem_cons.mp h with rfl | h
    · unfold SeqAt.shaped; rw [h1.1]; simp; omega
    · exact shaped_mem h1.2 (by omega) d h
theorem at0 {α : Type} {a : α} {r : List α} : atI (a :: r) 0 = some a := atI_nat (j := 0) rfl
theorem at1 {α : Type} {a b : α} {r : List α} : atI (a :: b :: r) 1 = some b := atI_nat (j := 1) rfl
theorem at2 {α : Type} {a b c : α} {r : List α} : atI (a :: b :: c :: r) 2 = some c := atI_nat (j := 2) rfl
theorem at3 {α : Type} {a b c d : α} {r : List α} : atI (a :: b :: c :: d :: r) 3 = some d := atI_nat (j := 3) rfl
theorem se_ne : ¬ (("scale" : Str) = "even") := by decide +kernel
theorem es_ne : ¬ (("even" : Str) = "scale") := by decide +kernel

/-! ### loops -/
def FLoop (J : It) (g : TG) (tb : TS) (D : Ends) (σ : St) (H : Hp) : Prop := ∃ W : Nat → Nat → St → Hp → Prop, (∃ m, W 0 m σ H) ∧ ∀ i m σ H, W i m σ H →
  (J.stop i H ∧ D.nx σ H) ∨ (J.go i H ∧ ∃ N : St → Hp → Prop, (∀ σ' H', N σ' H' → ∃ m', m' < m ∧ W (i + 1) m' σ' H') ∧ ∀ x H', J.yld i H x H' → g x σ H' fun σ2 H2 => tb { D with nx := N, ct := N, bk := D.nx } σ2 H2)
def LLoop (J : It) (g : TG) (tt : TT) (te : TE) (vs : List Nat) (σ : St) (H1 : Hp) (Q : VK) : Prop := ∀ D, H1 D = none → ∃ W : Nat → Nat → Hp → Prop, (∃ m, W 0 m (L2.upd H1 D (.lst []))) ∧ ∀ i m H, W i m H →
  (J.stop i H ∧ Q (.ref D) H) ∨ (J.go i H ∧ ∃ Nx : Hp → Prop, (∀ H', Nx H' → ∃ m', m' < m ∧ W (i + 1) m' H') ∧ ∀ x H', J.yld i H x H' → g x (wipe σ vs) H' fun σ2 H2 => wipe σ2 vs = wipe σ vs ∧ tt σ2 H2 fun b H3 =>
    if b = true then te σ2 H3 fun y H4 => ∃ acc, H4 D = some (.lst acc) ∧ acc.length < sizeLine ∧ Nx (L2.upd H4 D (.lst (acc ++ [y]))) else Nx H3)
def nItl (K : PySem.W.Frag) (x : V) (H1 : Hp) (R : It → Hp → Prop) : Prop := ∃ a, x = .ref a ∧ (∃ xs, SqL K H1 a xs) ∧ R (Itl K a) H1
def nItt (K : PySem.W.Frag) (x : V) (H1 : Hp) (R : It → Hp → Prop) : Prop := ∃ a, x = .ref a ∧ (∃ xs, SqT K H1 a xs) ∧ R (Itt K a) H1
def nRng1 (vs : List V) (H1 : Hp) (R : It → Hp → Prop) : Prop := ∃ j : Int, vs = [.int j] ∧ -(2 ^ 62) ≤ j ∧ j < 2 ^ 62 ∧ R (Itr 0 j.toNat) H1
def nRng2 (vs : List V) (H1 : Hp) (R : It → Hp → Prop) : Prop := ∃ i j : Int, vs = [.int i, .int j] ∧ (-(2 ^ 62) ≤ i ∧ i < 2 ^ 62 ∧ -(2 ^ 62) ≤ j ∧ j < 2 ^ 62) ∧ R (Itr i (j - i).toNat) H1
section
variable {K : PySem.W.Frag} {σ : St} {H : Hp} {Q : VK} {te : TE} {g : TG} {tb : TS} {D : Ends} {wi : TI} {tt : TT} {vs : List Nat} {R : It → Hp → Prop} {ta : TA}
theorem s_for (h : wi σ H fun J H1 => FLoop J g tb D σ H1) : tFor wi g tb D σ H := h
theorem s_lc (h : wi σ H fun J H1 => LLoop J g tt te vs σ H1 Q) : tLc wi g tt te vs σ H Q := h
theorem i_list (h : te σ H fun x H1 => nItl K x H1 R) : iList K te σ H R := h
theorem i_tup (h : te σ H fun x H1 => nItt K x H1 R) : iTup K te σ H R := h
theorem i_rng1 (h : ta σ H fun vs H1 => nRng1 vs H1 R) : iRng1 ta σ H R := h
theorem i_rng2 (h : ta σ H fun vs H1 => nRng2 vs H1 R) : iRng2 ta σ H R := h
theorem i_l {a : Addr} {xs : List V} (e : SqL K H a xs) (h : R (Itl K a) H) : nItl K (.ref a) H R := ⟨a, rfl, ⟨_, e⟩, h⟩
theorem i_t {a : Addr} {xs : List V} (e : SqT K H a xs) (h : R (Itt K a) H) : nItt K (.ref a) H R := ⟨a, rfl, ⟨_, e⟩, h⟩
theorem i_r1 {j : Int} (b : -4611686018427387904 ≤ j ∧ j < 4611686018427387904) (h : R (Itr 0 j.toNat) H) : nRng1 [.int j] H R := ⟨j, rfl, b.1, b.2, h⟩
theorem i_r2 {i j : Int} (b : -4611686018427387904 ≤ i ∧ i < 4611686018427387904 ∧ -4611686018427387904 ≤ j ∧ j < 4611686018427387904) (h : R (Itr i (j - i).toNat) H) : nRng2 [.int i, .int j] H R := ⟨i, j, rfl, b, h⟩
theorem fl_range {lo : Int} {n : Nat} (Pv : Nat → St → Hp → Prop) (h0 : Pv 0 σ H)
    (hs : ∀ i σ H, i < n → Pv i σ H → g (.int (lo + i)) σ H fun σ2 H2 => tb { D with nx := Pv (i + 1), ct := Pv (i + 1), bk := D.nx } σ2 H2) (hd : ∀ σ H, Pv n σ H → D.nx σ H) : FLoop (Itr lo n) g tb D σ H := for_range Pv h0 hs hd
theorem fl_list {a : Addr} {xs : List V} (Pv : Nat → St → Hp → Prop) (h0 : Pv 0 σ H) (hl : ∀ i σ H, i ≤ xs.length → Pv i σ H → SqL K H a xs)
    (hs : ∀ i x σ H, xs[i]? = some x → Pv i σ H → g x σ H fun σ2 H2 => tb { D with nx := Pv (i + 1), ct := Pv (i + 1), bk := D.nx } σ2 H2) (hd : ∀ σ H, Pv xs.length σ H → D.nx σ H) : FLoop (Itl K a) g tb D σ H := for_list Pv h0 hl hs hd
theorem fl_tup {a : Addr} {xs : List V} (Pv : Nat → St → Hp → Prop) (h0 : Pv 0 σ H) (hl : ∀ i σ H, i ≤ xs.length → Pv i σ H → SqT K H a xs)
    (hs : ∀ i x σ H, xs[i]? = some x → Pv i σ H → g x σ H fun σ2 H2 => tb { D with nx := Pv (i + 1), ct := Pv (i + 1), bk := D.nx } σ2 H2) (hd : ∀ σ H, Pv xs.length σ H → D.nx σ H) : FLoop (Itt K a) g tb D σ H := for_tup Pv h0 hl hs hd
end
/-! ### comprehensions that map: one value a place, the heap grows only -/
section
variable {K : PySem.W.Frag} {σ : St} {H : Hp} {Q : VK} {te : TE}
theorem ll_tup {α : Type} {i0 : Nat} {a : Addr} {xs : List V} {ys : List α} (f : α → V) (hS : SqT K H a xs) (hlen : xs.length = ys.length) (hsz : ys.length < 16777216)
    (hw : ∀ x, wipe ((wipe σ [i0]).set i0 (some x)) [i0] = wipe σ [i0])
    (hs : ∀ (i : Nat) (x : V) (y : α) (H' : Hp) (Q' : VK), xs[i]? = some x → ys[i]? = some y → Same H H' → (∀ H4, Same H' H4 → Q' (f y) H4) → te ((wipe σ [i0]).set i0 (some x)) H' Q')
    (hd : ∀ D H', Same H H' → H' D = some (.lst (ys.map f)) → H D = none → Q (.ref D) H') : LLoop (Itt K a) (gName i0) tYes te [i0] σ H Q := by
  refine fun D hD => lc_tup (K := K) (a := a) (xs := xs) (fun i H' => Same H H' ∧ H' D = some (.lst ((ys.take i).map f))) ⟨Same.up (Same.refl _) hD, upd_same⟩ (fun i H' _ h => SqT.same h.1 hS) (fun i x H' hx h => ?_) (fun H' h => ?_)
  · obtain ⟨h1, h2⟩ := h
    have hi : i < ys.length := by rw [← hlen]; exact (List.getElem?_eq_some_iff.mp hx).1
    refine ⟨hw x, ?_⟩
    show te _ H' _
    refine hs i x ys[i] H' _ hx (List.getElem?_eq_getElem hi) h1 fun H4 h4 => ⟨_, h4 _ _ h2, ?_, Same.upN (h1.trans h4) hD, ?_⟩
    · rw [List.length_map, List.length_take, PySem.sizeLine_eq]; omega
    · rw [upd_same, List.take_add_one, List.getElem?_eq_getElem hi, List.map_append]; rfl
  · obtain ⟨h1, h2⟩ := h
    refine hd D H' h1 ?_ hD
    rw [h2, hlen, List.take_length]
theorem ll_list {α : Type} {i0 : Nat} {a : Addr} {xs : List V} {ys : List α} (f : α → V) (hS : SqL K H a xs) (hlen : xs.length = ys.length) (hsz : ys.length < 16777216)
    (hw : ∀ x, wipe ((wipe σ [i0]).set i0 (some x)) [i0] = wipe σ [i0])
    (hs : ∀ (i : Nat) (x : V) (y : α) (H' : Hp) (Q' : VK), xs[i]? = some x → ys[i]? = some y → Same H H' → (∀ H4, Same H' H4 → Q' (f y) H4) → te ((wipe σ [i0]).set i0 (some x)) H' Q')
    (hd : ∀ D H', Same H H' → H' D = some (.lst (ys.map f)) → H D = none → Q (.ref D) H') : LLoop (Itl K a) (gName i0) tYes te [i0] σ H Q := by
  refine fun D hD => lc_list (K := K) (a := a) (xs := xs) (fun i H' => Same H H' ∧ H' D = some (.lst ((ys.take i).map f))) ⟨Same.up (Same.refl _) hD, upd_same⟩ (fun i H' _ h => SqL.same h.1 hS) (fun i x H' hx h => ?_) (fun H' h => ?_)
  · obtain ⟨h1, h2⟩ := h
    have hi : i < ys.length := by rw [← hlen]; exact (List.getElem?_eq_some_iff.mp hx).1
    refine ⟨hw x, ?_⟩
    show te _ H' _
    refine hs i x ys[i] H' _ hx (List.getElem?_eq_getElem hi) h1 fun H4 h4 => ⟨_, h4 _ _ h2, ?_, Same.upN (h1.trans h4) hD, ?_⟩
    · rw [List.length_map, List.length_take, PySem.sizeLine_eq]; omega
    · rw [upd_same, List.take_add_one, List.getElem?_eq_getElem hi, List.map_append]; rfl
  · obtain ⟨h1, h2⟩ := h
    refine hd D H' h1 ?_ hD
    rw [h2, hlen, List.take_length]
/-- over a range that is walked: f gives the i-th value -/
theorem ll_range {i0 : Nat} {lo : Int} {n : Nat} (f : Nat → V) (hsz : n < 16777216) (hw : ∀ x, wipe ((wipe σ [i0]).set i0 (some x)) [i0] = wipe σ [i0])
    (hs : ∀ (i : Nat) (H' : Hp) (Q' : VK), i < n → Same H H' → (∀ H4, Same H' H4 → Q' (f i) H4) → te ((wipe σ [i0]).set i0 (some (.int (lo + i)))) H' Q')
    (hd : ∀ D H', Same H H' → H' D = some (.lst ((List.range n).map f)) → H D = none → Q (.ref D) H') : LLoop (Itr lo n) (gName i0) tYes te [i0] σ H Q := by
  refine fun D hD => lc_range (lo := lo) (n := n) (fun i H' => Same H H' ∧ H' D = some (.lst ((List.range i).map f))) ⟨Same.up (Same.refl _) hD, upd_same⟩ (fun i H' hi h => ?_) (fun H' h => ?_)
  · obtain ⟨h1, h2⟩ := h
    refine ⟨hw _, ?_⟩
    show te _ H' _
    refine hs i H' _ hi h1 fun H4 h4 => ⟨_, h4 _ _ h2, ?_, Same.upN (h1.trans h4) hD, ?_⟩
    · rw [List.length_map, List.length_range, PySem.sizeLine_eq]; omega
    · rw [upd_same, List.range_succ, List.map_append]; rfl
  · obtain ⟨h1, h2⟩ := h
    exact hd D H' h1 h2 hD
end
theorem HAt.same {H H' : Hp} {a : Addr} {o : HO} (e : Same H H') (h : H a = some o) : H' a = some o := e _ _ h
section
variable {K : PySem.W.Frag} {H : Hp} {A : Prop}
theorem r_tyL {l : Addr} {xs : List V} (h : H l = some (.lst xs)) (q : A) : tyV K "list" (.ref l) H ∧ A := ⟨.inl ⟨rfl, _, SqL.of h⟩, q⟩
end

section
variable {H : Hp} {Q : VK} {σ : St} {K : PySem.W.Frag}
theorem r_p2 (h : Q (.int 100) H) : rI CPow (fun i j => .int (i ^ j.toNat)) (.int 10) (.int 2) H Q := ⟨10, 2, rfl, rfl, ⟨by decide, by decide, by decide⟩, h⟩
theorem r_p3 (h : Q (.int 1000) H) : rI CPow (fun i j => .int (i ^ j.toNat)) (.int 10) (.int 3) H Q := ⟨10, 3, rfl, rfl, ⟨by decide, by decide, by decide⟩, h⟩
theorem r_p4 (h : Q (.int 10000) H) : rI CPow (fun i j => .int (i ^ j.toNat)) (.int 10) (.int 4) H Q := ⟨10, 4, rfl, rfl, ⟨by decide, by decide, by decide⟩, h⟩
theorem r_p5 (h : Q (.int 100000) H) : rI CPow (fun i j => .int (i ^ j.toNat)) (.int 10) (.int 5) H Q := ⟨10, 5, rfl, rfl, ⟨by decide, by decide, by decide⟩, h⟩
theorem r_p6 (h : Q (.int 1000000) H) : rI CPow (fun i j => .int (i ^ j.toNat)) (.int 10) (.int 6) H Q := ⟨10, 6, rfl, rfl, ⟨by decide, by decide, by decide⟩, h⟩
theorem r_p7 (h : Q (.int 10000000) H) : rI CPow (fun i j => .int (i ^ j.toNat)) (.int 10) (.int 7) H Q := ⟨10, 7, rfl, rfl, ⟨by decide, by decide, by decide⟩, h⟩
theorem r_p8 (h : Q (.int 100000000) H) : rI CPow (fun i j => .int (i ^ j.toNat)) (.int 10) (.int 8) H Q := ⟨10, 8, rfl, rfl, ⟨by decide, by decide, by decide⟩, h⟩
theorem r_p9 (h : Q (.int 1000000000) H) : rI CPow (fun i j => .int (i ^ j.toNat)) (.int 10) (.int 9) H Q := ⟨10, 9, rfl, rfl, ⟨by decide, by decide, by decide⟩, h⟩
theorem r_p10 (h : Q (.int 10000000000) H) : rI CPow (fun i j => .int (i ^ j.toNat)) (.int 10) (.int 10) H Q := ⟨10, 10, rfl, rfl, ⟨by decide, by decide, by decide⟩, h⟩
theorem r_p12 (h : Q (.int 1000000000000) H) : rI CPow (fun i j => .int (i ^ j.toNat)) (.int 10) (.int 12) H Q := ⟨10, 12, rfl, rfl, ⟨by decide, by decide, by decide⟩, h⟩
theorem r_p15 (h : Q (.int 1000000000000000) H) : rI CPow (fun i j => .int (i ^ j.toNat)) (.int 10) (.int 15) H Q := ⟨10, 15, rfl, rfl, ⟨by decide, by decide, by decide⟩, h⟩
theorem r_p16 (h : Q (.int 10000000000000000) H) : rI CPow (fun i j => .int (i ^ j.toNat)) (.int 10) (.int 16) H Q := ⟨10, 16, rfl, rfl, ⟨by decide, by decide, by decide⟩, h⟩
theorem r_p17 (h : Q (.int 100000000000000000) H) : rI CPow (fun i j => .int (i ^ j.toNat)) (.int 10) (.int 17) H Q := ⟨10, 17, rfl, rfl, ⟨by decide, by decide, by decide⟩, h⟩
theorem r_p18 (h : Q (.int 1000000000000000000) H) : rI CPow (fun i j => .int (i ^ j.toNat)) (.int 10) (.int 18) H Q := ⟨10, 18, rfl, rfl, ⟨by decide, by decide, by decide⟩, h⟩
theorem cmul_b {i : Int} {b : Bool} : CMul i (if b = true then 1 else 0) := .inr (by cases b <;> decide)
theorem s_sub {to ti : TE} {t : TSet} {v : V} {Q : St → Hp → Prop} (h : to σ H fun o H1 => ti σ H1 fun i H2 => t o i v H2 fun H3 => Q σ H3) : gSub to ti t v σ H Q := h
theorem r_setL {p : Addr} {xs : List V} {k : Int} {j : Nat} {v : V} {Q : Hp → Prop} (h : H p = some (.lst xs)) (e : ixN xs.length k = some j) (q : Q (L2.upd H p (.lst (xs.set j v)))) : rSetL (.ref p) (.int k) v H Q := ⟨p, xs, k, j, rfl, rfl, h, e, q⟩
theorem s_while {c : TT} {tb : TS} {D : Ends} (Pv : Nat → St → Hp → Prop) (n0 : Nat) (h0 : Pv n0 σ H)
    (hs : ∀ n σ H, Pv n σ H → c σ H fun b H1 => if b = true then ∃ N : St → Hp → Prop, (∀ σ' H', N σ' H' → ∃ m', m' < n ∧ Pv m' σ' H') ∧ tb { D with nx := N, ct := N, bk := D.nx } σ H1 else D.nx σ H1) : tWhile c tb D σ H :=
  ⟨Pv, ⟨n0, h0⟩, hs⟩
end
end My

namespace My
open PySem L2
/-! ### steps and pipelines as data -/
inductive Step where
  | sc (k m c : Int)
  | ev (m : Int)
  deriving DecidableEq
def Step.ok : Step → Prop
  | .sc k m c => (1 ≤ k ∧ k ≤ 120) ∧ (1 ≤ m ∧ m ≤ 120) ∧ (-1000000000 ≤ c ∧ c ≤ 1000000000)
  | .ev m => 1 ≤ m ∧ m ≤ 60
def Step.per : Step → Int
  | .sc _ m _ => m
  | .ev m => if m % 2 = 0 then 2 * m else m
def Step.rise : Step → Int
  | .sc k _ _ => k
  | .ev m => if m % 2 = 0 then 2 else 1
/-- what is needed for the value -/
def Step.pos : Step → Prop
  | .sc k m _ => (1 ≤ k ∧ k ≤ 120) ∧ (1 ≤ m ∧ m ≤ 120)
  | .ev m => 1 ≤ m ∧ m ≤ 144
def Step.val : Step → Int → Int
  | .sc k m c, x => (k * x + c) / m
  | .ev m, x => if 2 * (x % m) = m then x / m + x / m % 2 else x / m + (if m < 2 * (x % m) then 1 else 0)
abbrev Pipe := List Step
def Pipe.val (p : Pipe) (x : Int) : Int := p.foldl (fun x s => s.val x) x
def Pipe.pos (p : Pipe) : Prop := ∀ s ∈ p, s.pos
theorem Step.ok.pos {s : Step} (h : s.ok) : s.pos := by
  cases s with
  | sc k m c => exact ⟨h.1, h.2.1⟩
  | ev m => exact ⟨h.1, Int.le_trans h.2 (by decide)⟩
def Step.cells : Step → List V
  | .sc k m c => [.str "scale", .int k, .int m, .int c]
  | .ev m => [.str "even", .int m]
def StepAt (K : PySem.W.Frag) (H : Hp) (v : V) (s : Step) : Prop := ∃ a, v = .ref a ∧ SqT K H a s.cells
def PipeAt (K : PySem.W.Frag) (H : Hp) (v : V) (p : Pipe) : Prop := ∃ a xs, v = .ref a ∧ SqT K H a xs ∧ Paired (StepAt K H) xs p
theorem StepAt.same {K : PySem.W.Frag} {H H' : Hp} {v : V} {s : Step} (e : Same H H') (h : StepAt K H v s) : StepAt K H' v s := by
  obtain ⟨a, q, h⟩ := h
  exact ⟨a, q, SqT.same e h⟩
theorem PipeAt.same {K : PySem.W.Frag} {H H' : Hp} {v : V} {p : Pipe} (e : Same H H') (h : PipeAt K H v p) : PipeAt K H' v p := by
  obtain ⟨a, xs, q, h, r⟩ := h
  exact ⟨a, xs, q, SqT.same e h, Paired.mapP r fun _ _ => StepAt.same e⟩
theorem StepAt.updL {K : PySem.W.Frag} {H : Hp} {v : V} {s : Step} {l : Addr} {ys : List V} {o : HO} (h : StepAt K H v s) (hl : H l = some (.lst ys)) : StepAt K (L2.upd H l o) v s := by
  obtain ⟨a, q, h⟩ := h
  exact ⟨a, q, SqT.updL h hl⟩
theorem PipeAt.updL {K : PySem.W.Frag} {H : Hp} {v : V} {p : Pipe} {l : Addr} {ys : List V} {o : HO} (h : PipeAt K H v p) (hl : H l = some (.lst ys)) : PipeAt K (L2.upd H l o) v p := by
  obtain ⟨a, xs, q, h, r⟩ := h
  exact ⟨a, xs, q, SqT.updL h hl, Paired.mapP r fun _ _ z => z.updL hl⟩
theorem Paired.get {α β : Type} {F : α → β → Prop} : ∀ {xs : List α} {ys : List β} {i : Nat} {x : α}, Paired F xs ys → xs[i]? = some x → ∃ y, ys[i]? = some y ∧ F x y
  | _, _, _, _, .nil, e => by simp at e
  | _, _, 0, _, .cons r _, e => by simp at e; subst e; exact ⟨_, rfl, r⟩
  | _, _, i + 1, x, .cons _ t, e => by
    obtain ⟨u, h1, h2⟩ := Paired.get (i := i) (x := x) t (by simpa using e)
    exact ⟨u, by simpa using h1, h2⟩
theorem Paired.len {α β : Type} {F : α → β → Prop} : ∀ {xs : List α} {ys : List β}, Paired F xs ys → xs.length = ys.length
  | _, _, .nil => rfl
  | _, _, .cons _ t => by simp [Paired.len t]
theorem Pipe.val_nil (x : Int) : Pipe.val [] x = x := rfl
theorem Pipe.val_cons (s : Step) (p : Pipe) (x : Int) : Pipe.val (s :: p) x = Pipe.val p (s.val x) := rfl
theorem Pipe.val_append (p q : Pipe) (x : Int) : Pipe.val (p ++ q) x = Pipe.val q (Pipe.val p x) := by simp [Pipe.val, List.foldl_append]
theorem take_succ_of {α : Type} {l : List α} {i : Nat} {x : α} (h : l[i]? = some x) : l.take (i + 1) = l.take i ++ [x] := by
  rw [List.take_add_one, h]; rfl
theorem Pipe.val_take {p : Pipe} {i : Nat} {s : Step} (h : p[i]? = some s) (x : Int) : Pipe.val (p.take (i + 1)) x = s.val (Pipe.val (p.take i) x) := by
  rw [take_succ_of h, Pipe.val_append]; rfl
/-- tuples stay -/
def TKeep (K : PySem.W.Frag) (H H' : Hp) : Prop := ∀ a xs, SqT K H a xs → SqT K H' a xs
theorem TKeep.refl {K : PySem.W.Frag} {H : Hp} : TKeep K H H := fun _ _ h => h
theorem TKeep.trans {K : PySem.W.Frag} {H H1 H2 : Hp} (a : TKeep K H H1) (b : TKeep K H1 H2) : TKeep K H H2 := fun c xs h => b c xs (a c xs h)
theorem TKeep.ofSame {K : PySem.W.Frag} {H H' : Hp} (a : Same H H') : TKeep K H H' := fun _ _ h => SqT.same a h
theorem TKeep.up {K : PySem.W.Frag} {H H1 : Hp} {p : Addr} {o : HO} (a : TKeep K H H1) (n : H1 p = none) : TKeep K H (L2.upd H1 p o) := a.trans (.ofSame (Same.up (Same.refl _) n))
theorem TKeep.upL {K : PySem.W.Frag} {H H1 : Hp} {p : Addr} {o : HO} {ys : List V} (a : TKeep K H H1) (n : H1 p = some (.lst ys)) : TKeep K H (L2.upd H1 p o) := a.trans fun _ _ h => SqT.updL h n
theorem StepAt.keep {K : PySem.W.Frag} {H H' : Hp} {v : V} {s : Step} (e : TKeep K H H') (h : StepAt K H v s) : StepAt K H' v s := by
  obtain ⟨a, q, h⟩ := h
  exact ⟨a, q, e _ _ h⟩
theorem PipeAt.keep {K : PySem.W.Frag} {H H' : Hp} {v : V} {p : Pipe} (e : TKeep K H H') (h : PipeAt K H v p) : PipeAt K H' v p := by
  obtain ⟨a, xs, q, h, r⟩ := h
  exact ⟨a, xs, q, e _ _ h, Paired.mapP r fun _ _ => StepAt.keep e⟩
theorem ev_ne_sc : decide (V.str "even" = V.str "scale") = false := by decide +kernel
theorem sc_ne_ev : decide (V.str "scale" = V.str "even") = false := by decide +kernel
theorem sc_eq : decide (V.str "scale" = V.str "scale") = true := by decide +kernel
theorem ev_eq : decide (V.str "even" = V.str "even") = true := by decide +kernel

/-! ### loops over pipelines -/
section
variable {K : PySem.W.Frag} {a : Addr} {xs : List V} {g : TG} {tb : TS} {D : Ends} {σ : St} {H H0 : Hp}
theorem fl_P {p : Pipe} (hS : SqT K H0 a xs) (hx : Paired (StepAt K H0) xs p) (Pv : Nat → St → Hp → Prop) (h0 : Pv 0 σ H) (hk : ∀ i σ H, Pv i σ H → TKeep K H0 H)
    (hs : ∀ i s v σ H, p[i]? = some s → s ∈ p → StepAt K H v s → Pv i σ H → g v σ H fun σ2 H2 => tb { D with nx := Pv (i + 1), ct := Pv (i + 1), bk := D.nx } σ2 H2) (hd : ∀ σ H, Pv p.length σ H → D.nx σ H) : FLoop (Itt K a) g tb D σ H := by
  refine fl_tup (xs := xs) Pv h0 (fun i σ H _ p => hk i σ H p _ _ hS) (fun i x σ H ex p => ?_) (by rw [Paired.len hx]; exact hd)
  obtain ⟨s, es, r⟩ := Paired.get hx ex
  exact hs i s x σ H es (List.mem_of_getElem? es) (r.keep (hk i σ H p)) p
end

/-! ### steps as data -/
def Step.data : Step → PyData
  | .sc k m c => .tuple [.str "scale", .int k, .int m, .int c]
  | .ev m => .tuple [.str "even", .int m]
def pipeD (p : Pipe) : PyData := .tuple (p.map Step.data)
def perD : PyData → Int
  | .tuple [.str _, .int _, .int m, .int _] => m
  | .tuple [.str _, .int m] => if m % 2 = 0 then 2 * m else m
  | _ => 1
def isPipeD : PyData → Bool
  | .tuple ds => decide (ds.length ≤ 6) && ds.all isStepD && decide ((ds.map perD).foldl (fun a b => a * b) 1 ≤ 120)
  | _ => false
def Pipe.prod (p : Pipe) : Int := (p.map Step.per).foldl (fun a b => a * b) 1
def Pipe.ok (p : Pipe) : Prop := p.length ≤ 6 ∧ (∀ s ∈ p, s.ok) ∧ p.prod ≤ 120
theorem Pipe.ok.pos {p : Pipe} (h : p.ok) : p.pos := fun s hs => (h.2.1 s hs).pos
theorem isIntD_elim {d : PyData} {lo hi : Int} (h : isIntD d lo hi = true) : ∃ i, d = .int i ∧ lo ≤ i ∧ i ≤ hi := by
  cases d with
  | int i => simp [isIntD] at h; exact ⟨i, rfl, h⟩
  | _ => simp [isIntD] at h
theorem isStepD_elim {d : PyData} (h : isStepD d = true) : ∃ s : Step, s.ok ∧ d = s.data := by
  unfold isStepD at h
  split at h
  · rename_i t r
    split at h
    · rename_i te
      subst te
      split at h
      · obtain ⟨i, rfl, h1, h2⟩ := isIntD_elim h
        exact ⟨.ev i, ⟨h1, h2⟩, rfl⟩
      · cases h
    · split at h
      · rename_i ts
        subst ts
        split at h
        · simp only [Bool.and_eq_true] at h
          obtain ⟨⟨h1, h2⟩, h3⟩ := h
          obtain ⟨i, rfl, g1⟩ := isIntD_elim h1
          obtain ⟨j, rfl, g2⟩ := isIntD_elim h2
          obtain ⟨l, rfl, g3⟩ := isIntD_elim h3
          exact ⟨.sc i j l, ⟨g1, g2, g3⟩, rfl⟩
        · cases h
      · cases h
  · cases h
theorem isStepD_data {s : Step} : isStepD s.data = true ↔ s.ok := by
  cases s with
  | sc k m c => simp [Step.data, isStepD, se_ne, isIntD, Step.ok, and_assoc]
  | ev m => simp [Step.data, isStepD, isIntD, Step.ok]
theorem perD_data (s : Step) : perD s.data = s.per := by cases s <;> rfl
theorem StepAt.dp {K : PySem.W.Frag} {H : Hp} {v : V} {s : Step} (h : StepAt K H v s) : Dp K H v s.data := by
  obtain ⟨a, rfl, h⟩ := h
  cases s with
  | sc k m c => exact .tup h (.cons (.str _) (.cons (.int _) (.cons (.int _) (.cons (.int _) .nil))))
  | ev m => exact .tup h (.cons (.str _) (.cons (.int _) .nil))
theorem StepAt.ofDp {K : PySem.W.Frag} {H : Hp} {v : V} {s : Step} (h : Dp K H v s.data) : StepAt K H v s := by
  cases s with
  | sc k m c =>
    cases h with
    | tup h a =>
      cases a with | cons h1 a => cases a with | cons h2 a => cases a with | cons h3 a => cases a with | cons h4 a =>
        cases a; cases h1; cases h2; cases h3; cases h4
        exact ⟨_, rfl, h⟩
  | ev m =>
    cases h with
    | tup h a =>
      cases a with | cons h1 a => cases a with | cons h2 a =>
        cases a; cases h1; cases h2
        exact ⟨_, rfl, h⟩
theorem dpAll_of {K : PySem.W.Frag} {H : Hp} : ∀ {xs : List V} {p : Pipe}, Paired (StepAt K H) xs p → DpAll K H xs (p.map Step.data)
  | _, _, .nil => .nil
  | _, _, .cons r t => .cons r.dp (dpAll_of t)
theorem ofDpAll {K : PySem.W.Frag} {H : Hp} : ∀ {p : Pipe} {xs : List V}, DpAll K H xs (p.map Step.data) → Paired (StepAt K H) xs p
  | [], _, .nil => .nil
  | _ :: _, _, .cons r t => .cons (StepAt.ofDp r) (ofDpAll t)
theorem PipeAt.dp {K : PySem.W.Frag} {H : Hp} {v : V} {p : Pipe} (h : PipeAt K H v p) : Dp K H v (pipeD p) := by
  obtain ⟨a, xs, rfl, h, r⟩ := h
  exact .tup h (dpAll_of r)
theorem PipeAt.ofDp {K : PySem.W.Frag} {H : Hp} {v : V} {p : Pipe} (h : Dp K H v (pipeD p)) : PipeAt K H v p := by
  cases h with
  | tup h a => exact ⟨_, _, rfl, h, ofDpAll a⟩
theorem steps_of : ∀ {ds : List PyData}, ds.all isStepD = true → ∃ p : Pipe, ds = p.map Step.data ∧ ∀ s ∈ p, s.ok
  | [], _ => ⟨[], rfl, by simp⟩
  | d :: ds, h => by
    simp only [List.all_cons, Bool.and_eq_true] at h
    obtain ⟨s, hs, rfl⟩ := isStepD_elim h.1
    obtain ⟨p, rfl, hp⟩ := steps_of h.2
    refine ⟨s :: p, rfl, fun t ht => ?_⟩
    rcases List.mem_cons.mp ht with rfl | ht
    · exact hs
    · exact hp t ht
theorem isPipeD_pipe {p : Pipe} : isPipeD (pipeD p) = true ↔ p.ok := by
  unfold isPipeD pipeD Pipe.ok Pipe.prod
  simp only [Bool.and_eq_true, decide_eq_true_eq, List.length_map, List.all_eq_true, List.map_map]
  have e : (perD ∘ Step.data) = Step.per := funext perD_data
  rw [e]
  constructor
  · rintro ⟨⟨h1, h2⟩, h3⟩
    exact ⟨h1, fun s hs => isStepD_data.mp (h2 _ (List.mem_map_of_mem hs)), h3⟩
  · rintro ⟨h1, h2, h3⟩
    refine ⟨⟨h1, fun d hd => ?_⟩, h3⟩
    obtain ⟨s, hs, rfl⟩ := List.mem_map.mp hd
    exact isStepD_data.mpr (h2 s hs)
theorem strOk_sc : PyData.canLay0 (.str "scale") = true := by decide +kernel
theorem strOk_ev : PyData.canLay0 (.str "even") = true := by decide +kernel
theorem step_lay (s : Step) : s.data.canLay0 = true ∧ s.data.depth ≤ 1 := by
  cases s with
  | sc k m c => simp [Step.data, PyData.canLay0, PyData.canLayAll0, PyData.depth, PyData.depthAll]; exact strOk_sc
  | ev m => simp [Step.data, PyData.canLay0, PyData.canLayAll0, PyData.depth, PyData.depthAll]; exact strOk_ev
theorem steps_lay : ∀ p : Pipe, PyData.canLayAll0 (p.map Step.data) = true ∧ PyData.depthAll (p.map Step.data) ≤ 1
  | [] => ⟨rfl, Nat.zero_le _⟩
  | s :: p => by
    have h1 := step_lay s
    have h2 := steps_lay p
    simp only [List.map_cons, PyData.canLayAll0, PyData.depthAll, h1.1, h2.1, Bool.and_self, true_and]
    omega
theorem shaped_step (s : Step) : SeqAt.shaped s.data = true := by
  have h := step_lay s
  unfold SeqAt.shaped
  rw [h.1]; simp; omega
theorem shaped_pipe (p : Pipe) : SeqAt.shaped (pipeD p) = true := by
  have h := steps_lay p
  unfold pipeD
  rw [shaped_tup, h.1]; simp; omega
theorem Step.per_pos {s : Step} (h : s.ok) : 1 ≤ s.per ∧ s.per ≤ 120 := by
  cases s with
  | sc k m c => exact h.2.1
  | ev m =>
    have h1 := h.1; have h2 := h.2
    unfold Step.per
    constructor <;> (dsimp only; split <;> omega)
theorem prod_take {p : Pipe} {i : Nat} {s : Step} (h : p[i]? = some s) : Pipe.prod (p.take (i + 1)) = Pipe.prod (p.take i) * s.per := by
  rw [take_succ_of h]; unfold Pipe.prod; simp [List.foldl_append]
end My
namespace My
open PySem L2
def Pipe.trace (p : Pipe) (x : Int) : List Int := match p with
  | [] => []
  | s :: p => s.val x :: Pipe.trace p (s.val x)
theorem Pipe.trace_length : ∀ (p : Pipe) (x : Int), (p.trace x).length = p.length
  | [], _ => rfl
  | s :: p, x => by simp [Pipe.trace, Pipe.trace_length p]
theorem Pipe.trace_append : ∀ (p q : Pipe) (x : Int), Pipe.trace (p ++ q) x = Pipe.trace p x ++ Pipe.trace q (Pipe.val p x)
  | [], _, _ => rfl
  | s :: p, q, x => by
    show s.val x :: Pipe.trace (p ++ q) (s.val x) = s.val x :: (Pipe.trace p (s.val x) ++ Pipe.trace q (Pipe.val p (s.val x)))
    rw [Pipe.trace_append p q]
theorem Pipe.trace_take {p : Pipe} {i : Nat} {s : Step} (h : p[i]? = some s) (x : Int) : Pipe.trace (p.take (i + 1)) x = Pipe.trace (p.take i) x ++ [s.val (Pipe.val (p.take i) x)] := by
  rw [take_succ_of h, Pipe.trace_append]; rfl
end My
namespace My
open PySem L2
/-! ### facts, a hop back -/
section
variable {K : PySem.W.Frag} {H H' : Hp} {a l p b d : Addr} {o u : HO} {xs ys : List V} {v : V} {s : Step} {q : Pipe} {dd : PyData}
theorem SqT.hs (e : Same H H') (h : SqT K H a xs) : SqT K H' a xs := SqT.same e h
theorem SqT.hu (n : H p = none) (h : SqT K H a xs) : SqT K (L2.upd H p o) a xs := SqT.same (Same.up (Same.refl _) n) h
theorem SqT.hl (n : H p = some (.lst ys)) (h : SqT K H a xs) : SqT K (L2.upd H p o) a xs := SqT.updL h n
theorem SqL.hs (e : Same H H') (h : SqL K H a xs) : SqL K H' a xs := SqL.same e h
theorem SqL.hu (n : H p = none) (h : SqL K H a xs) : SqL K (L2.upd H p o) a xs := SqL.same (Same.up (Same.refl _) n) h
theorem StepAt.hs (e : Same H H') (h : StepAt K H v s) : StepAt K H' v s := StepAt.same e h
theorem StepAt.hu (n : H p = none) (h : StepAt K H v s) : StepAt K (L2.upd H p o) v s := StepAt.same (Same.up (Same.refl _) n) h
theorem StepAt.hl (n : H p = some (.lst ys)) (h : StepAt K H v s) : StepAt K (L2.upd H p o) v s := StepAt.updL h n
theorem PipeAt.hs (e : Same H H') (h : PipeAt K H v q) : PipeAt K H' v q := PipeAt.same e h
theorem PipeAt.hu (n : H p = none) (h : PipeAt K H v q) : PipeAt K (L2.upd H p o) v q := PipeAt.same (Same.up (Same.refl _) n) h
theorem PipeAt.hl (n : H p = some (.lst ys)) (h : PipeAt K H v q) : PipeAt K (L2.upd H p o) v q := PipeAt.updL h n
theorem Dp.hs (e : Same H H') (h : Dp K H v dd) : Dp K H' v dd := Dp.same e h
theorem Dp.hu (n : H p = none) (h : Dp K H v dd) : Dp K (L2.upd H p o) v dd := Dp.same (Same.up (Same.refl _) n) h
theorem HAt.hs (e : Same H H') (h : H a = some u) : H' a = some u := e _ _ h
theorem HAt.hu (n : H p = none) (h : H a = some u) : L2.upd H p o a = some u := by rw [upd_ne (ne_of_none h n)]; exact h
theorem HAt.hn (n : a ≠ p) (h : H a = some u) : L2.upd H p o a = some u := by rw [upd_ne n]; exact h

/-! ### the bag of draws -/
structure BagAt (H : Hp) (b d : Addr) : Prop where
  ne : d ≠ b
  ex : ∃ (n : Int) (ds : List Int), H b = some (.lst [.ref d, .int n]) ∧ H d = some (.lst (ds.map V.int)) ∧ ds.length = 400 ∧ (∀ z ∈ ds, 0 ≤ z) ∧ 0 ≤ n
structure Bs (K : PySem.W.Frag) (b d : Addr) (H H' : Hp) : Prop where
  off : ∀ a o, a ≠ b → H a = some o → H' a = some o
  keep : TKeep K H H'
  bag : BagAt H' b d
theorem BagAt.atb (h : BagAt H b d) : ∃ o, H b = some o := by obtain ⟨_, _, _, e, _⟩ := h; exact ⟨_, e⟩
theorem BagAt.atd (h : BagAt H b d) : ∃ o, H d = some o := by obtain ⟨_, _, _, _, e, _⟩ := h; exact ⟨_, e⟩
theorem BagAt.neb (h : BagAt H b d) (n : H l = none) : l ≠ b := by
  obtain ⟨o, e⟩ := h.atb
  exact (ne_of_none e n).symm
theorem BagAt.ned (h : BagAt H b d) (n : H l = none) : l ≠ d := by
  obtain ⟨o, e⟩ := h.atd
  exact (ne_of_none e n).symm
theorem BagAt.keep (h : BagAt H b d) (eb : ∀ o, H b = some o → H' b = some o) (ed : ∀ o, H d = some o → H' d = some o) : BagAt H' b d := by
  obtain ⟨ne, n, ds, h1, h2, r⟩ := h
  exact ⟨ne, n, ds, eb _ h1, ed _ h2, r⟩
theorem BagAt.hs (e : Same H H') (h : BagAt H b d) : BagAt H' b d := h.keep (e _) (e _)
theorem BagAt.hu (n : H p = none) (h : BagAt H b d) : BagAt (L2.upd H p o) b d := h.hs (Same.up (Same.refl _) n)
theorem BagAt.hn (nb : p ≠ b) (nd : p ≠ d) (h : BagAt H b d) : BagAt (L2.upd H p o) b d := h.keep (fun _ e => HAt.hn nb.symm e) (fun _ e => HAt.hn nd.symm e)
theorem Bs.refl (h : BagAt H b d) : Bs K b d H H := ⟨fun _ _ _ e => e, TKeep.refl, h⟩
theorem Bs.trans {H1 : Hp} (x : Bs K b d H H1) (y : Bs K b d H1 H') : Bs K b d H H' := ⟨fun a o n e => y.off a o n (x.off a o n e), x.keep.trans y.keep, y.bag⟩
theorem Bs.hs {H1 : Hp} (e : Same H1 H') (x : Bs K b d H H1) : Bs K b d H H' := ⟨fun a o n q => e _ _ (x.off a o n q), x.keep.trans (.ofSame e), x.bag.hs e⟩
theorem Bs.hu {H1 : Hp} (n : H1 p = none) (x : Bs K b d H H1) : Bs K b d H (L2.upd H1 p o) := x.hs (Same.up (Same.refl _) n)
theorem Bs.hb {H1 : Hp} (y : Bs K b d H1 H') (x : Bs K b d H H1) : Bs K b d H H' := x.trans y
/-- a list of ours is written -/
theorem Bs.hl {H1 : Hp} (n : H l = none) (hl : H1 l = some (.lst ys)) (h : BagAt H b d) (x : Bs K b d H H1) : Bs K b d H (L2.upd H1 l o) :=
  ⟨fun a o' na e => HAt.hn (ne_of_none e n) (x.off a o' na e), x.keep.upL hl, x.bag.hn (h.neb n) (h.ned n)⟩
theorem Bs.free (x : Bs K b d H H') (n : H' l = none) : H l = none := by
  cases q : H l with
  | none => rfl
  | some o =>
    by_cases e : l = b
    · subst e
      obtain ⟨o', e'⟩ := x.bag.atb
      rw [n] at e'; cases e'
    · rw [x.off l o e q] at n; cases n
theorem SqT.hb (e : Bs K b d H H') (h : SqT K H a xs) : SqT K H' a xs := e.keep _ _ h
theorem StepAt.hb (e : Bs K b d H H') (h : StepAt K H v s) : StepAt K H' v s := StepAt.keep e.keep h
theorem PipeAt.hb (e : Bs K b d H H') (h : PipeAt K H v q) : PipeAt K H' v q := PipeAt.keep e.keep h
theorem HAt.hb (e : Bs K b d H H') (n : a ≠ b) (h : H a = some u) : H' a = some u := e.off _ _ n h
theorem SqL.hb (e : Bs K b d H H') (n : a ≠ b) (h : SqL K H a xs) : SqL K H' a xs := by
  rcases h with (h | ⟨ob, h⟩) | h
  · exact .inl (.inl (e.off _ _ n h))
  · exact .inl (.inr ⟨ob, e.off _ _ n h⟩)
  · exact .inr h
end
end My
namespace My
open PySem L2
/-! ### the bags of a law -/
structure BagsAt (H : Hp) (q : Addr) (bs : List (Addr × Addr)) : Prop where
  lst : H q = some (.lst (bs.map fun p => .ref p.1))
  bag : ∀ p ∈ bs, BagAt H p.1 p.2
  apart : bs.Pairwise fun p r => r.1 ≠ p.1 ∧ r.2 ≠ p.1
  nq : ∀ p ∈ bs, q ≠ p.1
theorem fl_bags {K : PySem.W.Frag} {q : Addr} {bs : List (Addr × Addr)} {g : TG} {tb : TS} {D : Ends} {σ : St} {H : Hp} (hB : BagsAt H q bs) (S : St → Prop) (h0 : S σ)
    (hs : ∀ b d σ' H', S σ' → BagAt H' b d → g (.ref b) σ' H' fun σ2 H2 => tb { D with nx := fun σ3 H3 => Bs K b d H' H3 ∧ S σ3, ct := fun σ3 H3 => Bs K b d H' H3 ∧ S σ3, bk := D.nx } σ2 H2)
    (hd : ∀ σ' H', S σ' → D.nx σ' H') : FLoop (Itl K q) g tb D σ H := by
  obtain ⟨hl, hb, ha, hq⟩ := hB
  refine ⟨fun i m σ' H' => m = bs.length - i ∧ i ≤ bs.length ∧ S σ' ∧ H' q = some (.lst (bs.map fun p => .ref p.1)) ∧ ∀ p ∈ bs.drop i, BagAt H' p.1 p.2, ⟨_, rfl, Nat.zero_le _, h0, hl, fun p hp => hb p (List.mem_of_mem_drop hp)⟩, ?_⟩
  rintro i m σ' H' ⟨rfl, hi, hS, hl', hb'⟩
  have hL : SqL K H' q (bs.map fun p => .ref p.1) := SqL.of hl'
  by_cases hlt : i < bs.length
  · have hx : (bs.map fun p => V.ref p.1)[i]? = some (.ref bs[i].1) := by rw [List.getElem?_map, List.getElem?_eq_getElem hlt]; rfl
    have hd' : bs.drop i = bs[i] :: bs.drop (i + 1) := List.drop_eq_getElem_cons hlt
    refine .inr ⟨⟨_, _, hL, hx⟩, fun σ3 H3 => Bs K bs[i].1 bs[i].2 H' H3 ∧ S σ3, ?_, ?_⟩
    · rintro σ3 H3 ⟨hB, hS3⟩
      refine ⟨bs.length - (i + 1), by omega, rfl, hlt, hS3, hB.off _ _ (hq _ (List.getElem_mem hlt)) hl', fun p hp => ?_⟩
      have hpm : p ∈ bs.drop i := by rw [hd']; exact List.mem_cons_of_mem _ hp
      have hap : p.1 ≠ bs[i].1 ∧ p.2 ≠ bs[i].1 := by
        have h1 : (bs.drop i).Pairwise fun p r => r.1 ≠ p.1 ∧ r.2 ≠ p.1 := List.Pairwise.sublist (List.drop_sublist i bs) ha
        rw [hd', List.pairwise_cons] at h1
        exact h1.1 p hp
      exact (hb' p hpm).keep (fun _ e => hB.off _ _ hap.1 e) (fun _ e => hB.off _ _ hap.2 e)
    · rintro x H2 ⟨rfl, hx2⟩
      have ex : x = .ref bs[i].1 := Option.some.inj ((hx2 _ hL).symm.trans hx)
      subst ex
      exact hs _ _ σ' _ hS (hb' _ (by rw [hd']; exact List.mem_cons_self))
  · refine .inl ⟨⟨_, hL, by rw [List.length_map]; omega⟩, hd σ' H' hS⟩
theorem pick3 {a b c r : Int} (h0 : 0 ≤ r) (h1 : r < 3) {lo hi : Int} (ha : lo ≤ a ∧ a ≤ hi) (hb : lo ≤ b ∧ b ≤ hi) (hc : lo ≤ c ∧ c ≤ hi) : ∃ z, atI [V.int a, V.int b, V.int c] r = some (.int z) ∧ lo ≤ z ∧ z ≤ hi := by
  rcases (show r = 0 ∨ r = 1 ∨ r = 2 by omega) with rfl | rfl | rfl
  · exact ⟨a, rfl, ha⟩
  · exact ⟨b, rfl, hb⟩
  · exact ⟨c, rfl, hc⟩
theorem pick4 {a b c e r : Int} (h0 : 0 ≤ r) (h1 : r < 4) {lo hi : Int} (ha : lo ≤ a ∧ a ≤ hi) (hb : lo ≤ b ∧ b ≤ hi) (hc : lo ≤ c ∧ c ≤ hi) (he : lo ≤ e ∧ e ≤ hi) : ∃ z, atI [V.int a, V.int b, V.int c, V.int e] r = some (.int z) ∧ lo ≤ z ∧ z ≤ hi := by
  rcases (show r = 0 ∨ r = 1 ∨ r = 2 ∨ r = 3 by omega) with rfl | rfl | rfl | rfl
  · exact ⟨a, rfl, ha⟩
  · exact ⟨b, rfl, hb⟩
  · exact ⟨c, rfl, hc⟩
  · exact ⟨e, rfl, he⟩
theorem emod_b {x m : Int} (h : 0 < m) : 0 ≤ x % m ∧ x % m < m := ⟨Int.emod_nonneg _ (by omega), Int.emod_lt_of_pos _ h⟩
end My
namespace My
open PySem L2
theorem r_pick3 {K : PySem.W.Frag} {H : Hp} {Q : VK} {p : Addr} {a b c r : Int} {lo hi : Int} (h : SqL K H p [.int a, .int b, .int c]) (h0 : 0 ≤ r) (h1 : r < 3) (ha : lo ≤ a ∧ a ≤ hi) (hb : lo ≤ b ∧ b ≤ hi) (hc : lo ≤ c ∧ c ≤ hi)
    (q : ∀ z, lo ≤ z → z ≤ hi → Q (.int z) H) : rIxL K (.ref p) (.int r) H Q := by
  obtain ⟨z, hz, z0, z1⟩ := pick3 h0 h1 ha hb hc
  exact r_ixL h hz (q z z0 z1)
theorem r_pick4 {K : PySem.W.Frag} {H : Hp} {Q : VK} {p : Addr} {a b c e r : Int} {lo hi : Int} (h : SqL K H p [.int a, .int b, .int c, .int e]) (h0 : 0 ≤ r) (h1 : r < 4) (ha : lo ≤ a ∧ a ≤ hi) (hb : lo ≤ b ∧ b ≤ hi) (hc : lo ≤ c ∧ c ≤ hi) (he : lo ≤ e ∧ e ≤ hi)
    (q : ∀ z, lo ≤ z → z ≤ hi → Q (.int z) H) : rIxL K (.ref p) (.int r) H Q := by
  obtain ⟨z, hz, z0, z1⟩ := pick4 h0 h1 ha hb hc he
  exact r_ixL h hz (q z z0 z1)
end My
namespace My
open PySem L2
theorem NEb {H : Hp} {l b d : Addr} (n : H l = none) (h : BagAt H b d) : l ≠ b := h.neb n
theorem NEd {H : Hp} {l b d : Addr} (n : H l = none) (h : BagAt H b d) : l ≠ d := h.ned n
end My
namespace My
open PySem L2
theorem r_yes {σ : St} {H : Hp} {Q : Bool → Hp → Prop} (h : Q true H) : tYes σ H Q := h
theorem Pipe.prod_nil : Pipe.prod [] = 1 := rfl
theorem Pipe.prod_snoc (p : Pipe) (s : Step) : Pipe.prod (p ++ [s]) = Pipe.prod p * s.per := by unfold Pipe.prod; simp [List.foldl_append]
theorem foldl_mul (l : List Int) : ∀ a : Int, l.foldl (fun a b => a * b) a = a * l.foldl (fun a b => a * b) 1 := by
  induction l with
  | nil => intro a; simp
  | cons x r ih => intro a; simp only [List.foldl_cons]; rw [ih (a * x), ih (1 * x), Int.one_mul, Int.mul_assoc]
theorem Pipe.prod_cons (p : Pipe) (s : Step) : Pipe.prod (s :: p) = s.per * Pipe.prod p := by
  unfold Pipe.prod
  simp only [List.map_cons, List.foldl_cons]
  rw [foldl_mul]
  simp
theorem one_le_mul {a b : Int} (h : 1 ≤ a) (h' : 1 ≤ b) : 1 ≤ a * b := by
  have := Int.mul_le_mul h h' (by omega) (by omega)
  simpa using this
theorem le_of_mul_le_r {a b c : Int} (h : 1 ≤ a) (h' : 0 ≤ b) (e : a * b ≤ c) : b ≤ c := by
  have := Int.mul_le_mul_of_nonneg_right h h'
  omega
theorem Pipe.prod_pos : ∀ {p : Pipe}, (∀ s ∈ p, s.ok) → 1 ≤ p.prod
  | [], _ => by decide
  | s :: p, h => by
    rw [Pipe.prod_cons]
    exact one_le_mul (Step.per_pos (h s (by simp))).1 (Pipe.prod_pos fun t ht => h t (by simp [ht]))
theorem prod_step {q a e l : Int} (hq : 1 ≤ q) (he : 1 ≤ e) (h : q * a ≤ l) : q * e * (a / e) ≤ l := by
  have h1 : e * (a / e) ≤ a := Int.mul_ediv_self_le (by omega)
  have h2 : q * (e * (a / e)) ≤ q * a := Int.mul_le_mul_of_nonneg_left h1 (by omega)
  rw [Int.mul_assoc]; omega
theorem one_le_div {a e : Int} (he : 1 ≤ e) (h : e ≤ a) : 1 ≤ a / e := by
  rw [Int.le_ediv_iff_mul_le (by omega)]; omega
end My
namespace My
theorem Paired.snoc {α β : Type} {F : α → β → Prop} : ∀ {xs : List α} {ys : List β} {x : α} {y : β}, PySem.Paired F xs ys → F x y → PySem.Paired F (xs ++ [x]) (ys ++ [y])
  | _, _, _, _, .nil, h => .cons h .nil
  | _, _, _, _, .cons r t, h => .cons r (Paired.snoc t h)
end My
namespace My
open PySem L2
/-! ### lists of ints compared -/
section
variable {K : PySem.W.Frag} {H : Hp} {Q : VK}
theorem dpAllInts : ∀ ns : List Int, DpAll K H (ns.map V.int) (ns.map PyData.int)
  | [] => .nil
  | n :: ns => .cons (.int n) (dpAllInts ns)
theorem dpInts {a : Addr} {ns : List Int} (h : SqL K H a (ns.map V.int)) : Dp K H (.ref a) (.list (ns.map PyData.int)) := .lst h (dpAllInts ns)
theorem dpIntsT {a : Addr} {ns : List Int} (h : SqT K H a (ns.map V.int)) : Dp K H (.ref a) (.tuple (ns.map PyData.int)) := .tup h (dpAllInts ns)
theorem lay_ints : ∀ ns : List Int, PyData.canLayAll0 (ns.map PyData.int) = true ∧ PyData.depthAll (ns.map PyData.int) = 0
  | [] => ⟨rfl, rfl⟩
  | n :: ns => by
    have h := lay_ints ns
    simp [PyData.canLayAll0, PyData.depthAll, PyData.canLay0, PyData.depth, h.1, h.2]
theorem shaped_ints (ns : List Int) : SeqAt.shaped (.list (ns.map PyData.int)) = true := by
  have h := lay_ints ns
  unfold SeqAt.shaped
  simp [PyData.canLay0, PyData.depth, h.1, h.2]
theorem shaped_intsT (ns : List Int) : SeqAt.shaped (.tuple (ns.map PyData.int)) = true := by
  have h := lay_ints ns
  unfold SeqAt.shaped
  simp [PyData.canLay0, PyData.depth, h.1, h.2]
theorem eqv_self {d : PyData} (h : SeqAt.shaped d = true) : PyData.eqv d d = true := SeqAt.eqv_refl d (SeqAt.canLay_of_shaped h)
theorem r_neSelf {x y : V} {d : PyData} (hx : Dp K H x d) (hy : Dp K H y d) (s : SeqAt.shaped d = true) (q : Q (.bl false) H) : rNeD K x y H Q := r_neD hx hy s s (by rw [eqv_self s]; exact q)
theorem r_eqSelf {x y : V} {d : PyData} (hx : Dp K H x d) (hy : Dp K H y d) (s : SeqAt.shaped d = true) (q : Q (.bl true) H) : rEqD K x y H Q := r_eqD hx hy s s (by rw [eqv_self s]; exact q)
theorem r_neInts {a b : Addr} {ns : List Int} (h1 : SqL K H a (ns.map V.int)) (h2 : SqL K H b (ns.map V.int)) (q : Q (.bl false) H) : rNeD K (.ref a) (.ref b) H Q := r_neSelf (dpInts h1) (dpInts h2) (shaped_ints ns) q
theorem r_eqInts {a b : Addr} {ns : List Int} (h1 : SqL K H a (ns.map V.int)) (h2 : SqL K H b (ns.map V.int)) (q : Q (.bl true) H) : rEqD K (.ref a) (.ref b) H Q := r_eqSelf (dpInts h1) (dpInts h2) (shaped_ints ns) q
end
end My
namespace My
open PySem L2
section
variable {K : PySem.W.Frag} {H : Hp} {Q : VK}
theorem StepAt.evA {a : Addr} {m : Int} (h : SqT K H a [.str "even", .int m]) : StepAt K H (.ref a) (.ev m) := ⟨a, rfl, h⟩
theorem StepAt.scA {a : Addr} {k m c : Int} (h : SqT K H a [.str "scale", .int k, .int m, .int c]) : StepAt K H (.ref a) (.sc k m c) := ⟨a, rfl, h⟩
theorem PipeAt.mk {a : Addr} {xs : List V} {p : Pipe} (h : SqT K H a xs) (r : Paired (StepAt K H) xs p) : PipeAt K H (.ref a) p := ⟨a, xs, rfl, h, r⟩
theorem pairNil : Paired (StepAt K H) [] [] := .nil
theorem pairCons {v : V} {s : Step} {xs : List V} {p : Pipe} (h : StepAt K H v s) (t : Paired (StepAt K H) xs p) : Paired (StepAt K H) (v :: xs) (s :: p) := .cons h t
theorem r_isiLT {a : Addr} {xs : List V} {T : String} (h : SqL K H a xs) (e : kitB "list" T = some true) (q : Q (.bl true) H) : rIsi K [.ref a, .ty T] H Q := by
  refine ⟨.ref a, .ty T, .type "list", _, true, rfl, .ty T, ?_, kit_ty e, q⟩
  rcases h with (h | ⟨o, h⟩) | ⟨o, its, n, h, c, _⟩
  · exact .base (.lst h)
  · exact .base (.frz h)
  · exact .kList h c
theorem r_isiLF {a : Addr} {xs : List V} {T : String} (h : SqL K H a xs) (e : kitB "list" T = some false) (q : Q (.bl false) H) : rIsi K [.ref a, .ty T] H Q := by
  refine ⟨.ref a, .ty T, .type "list", _, false, rfl, .ty T, ?_, kit_ty e, q⟩
  rcases h with (h | ⟨o, h⟩) | ⟨o, its, n, h, c, _⟩
  · exact .base (.lst h)
  · exact .base (.frz h)
  · exact .kList h c
end
instance (s : Step) : Decidable s.ok := by cases s <;> (unfold Step.ok; infer_instance)
instance (p : Pipe) : Decidable p.ok := by unfold Pipe.ok; infer_instance
instance (s : Step) : Decidable s.pos := by cases s <;> (unfold Step.pos; infer_instance)
instance (p : Pipe) : Decidable p.pos := by unfold Pipe.pos; infer_instance
end My
namespace My
open PySem L2
section
variable {K : PySem.W.Frag} {H : Hp}
theorem StepAt.newE {a : Addr} {m : Int} : StepAt K (L2.upd H a (.tup [.str "even", .int m])) (.ref a) (.ev m) := ⟨a, rfl, SqT.new⟩
theorem StepAt.newS {a : Addr} {k m c : Int} : StepAt K (L2.upd H a (.tup [.str "scale", .int k, .int m, .int c])) (.ref a) (.sc k m c) := ⟨a, rfl, SqT.new⟩
theorem PipeAt.new {a : Addr} {xs : List V} {p : Pipe} (r : Paired (StepAt K (L2.upd H a (.tup xs))) xs p) : PipeAt K (L2.upd H a (.tup xs)) (.ref a) p := ⟨a, xs, rfl, SqT.new, r⟩
end
end My
namespace My
open PySem L2
theorem SqL.hn {K : PySem.W.Frag} {H : Hp} {a p : Addr} {xs : List V} {o : HO} (n : a ≠ p) (h : SqL K H a xs) : SqL K (L2.upd H p o) a xs := by
  rcases h with (h | ⟨ob, h⟩) | h
  · exact .inl (.inl (HAt.hn n h))
  · exact .inl (.inr ⟨ob, HAt.hn n h⟩)
  · exact .inr h
theorem NEs {H : Hp} {a b : Addr} {o : HO} (n : H b = none) (h : H a = some o) : a ≠ b := ne_of_none h n
end My

namespace My
/-! ### periods, in plain Lean -/
def QP (f : Int → Int) (P R : Int) : Prop := ∀ x, f (x + P) = f x + R
theorem QP.add {f : Int → Int} {P R P' R' : Int} (h : QP f P R) (h' : QP f P' R') : QP f (P + P') (R + R') := fun x => by
  rw [← Int.add_assoc, h', h]; omega
theorem QP.neg {f : Int → Int} {P R : Int} (h : QP f P R) : QP f (-P) (-R) := fun x => by
  have := h (x + -P)
  rw [show x + -P + P = x by omega] at this
  omega
theorem QP.zero {f : Int → Int} : QP f 0 0 := fun x => by simp
theorem QP.mulNat {f : Int → Int} {P R : Int} (h : QP f P R) : ∀ n : Nat, QP f ((n : Int) * P) ((n : Int) * R)
  | 0 => by simpa using QP.zero
  | n + 1 => by
    have := (QP.mulNat h n).add h
    have e1 : ((n : Int) * P + P) = ((n + 1 : Nat) : Int) * P := by push_cast; rw [Int.add_mul]; omega
    have e2 : ((n : Int) * R + R) = ((n + 1 : Nat) : Int) * R := by push_cast; rw [Int.add_mul]; omega
    rw [e1, e2] at this; exact this
theorem QP.mul {f : Int → Int} {P R : Int} (h : QP f P R) (n : Int) : QP f (n * P) (n * R) := by
  rcases Int.le_total 0 n with hn | hn
  · obtain ⟨k, rfl⟩ := Int.eq_ofNat_of_zero_le hn
    exact h.mulNat k
  · obtain ⟨k, hk⟩ := Int.eq_ofNat_of_zero_le (show 0 ≤ -n by omega)
    have := (h.mulNat k).neg
    rw [← Int.neg_mul, ← Int.neg_mul] at this
    rw [show n = -(k : Int) by omega]; exact this
theorem QP.comp {f g : Int → Int} {P R R' : Int} (h : QP f P R) (h' : QP g R R') : QP (fun x => g (f x)) P R' := fun x => by
  show g (f (x + P)) = g (f x) + R'
  rw [h, h']
theorem QP.rise {f : Int → Int} {P R R' : Int} (h : QP f P R) (h' : QP f P R') : R = R' := by
  have a := h 0; have b := h' 0; omega
theorem QP.congr {f g : Int → Int} {P R : Int} (h : QP f P R) (e : ∀ x, f x = g x) : QP g P R := fun x => by rw [← e, ← e]; exact h x
structure Least (f : Int → Int) (P R : Int) : Prop where
  pos : 0 < P
  qp : QP f P R
  least : ∀ P' R', 0 < P' → QP f P' R' → P ≤ P'
theorem Least.congr {f g : Int → Int} {P R : Int} (h : Least f P R) (e : ∀ x, f x = g x) : Least g P R := ⟨h.pos, h.qp.congr e, fun P' R' hp hq => h.least P' R' hp (hq.congr fun x => (e x).symm)⟩
theorem Least.unique {f : Int → Int} {P R P' R' : Int} (h : Least f P R) (h' : Least f P' R') : P = P' ∧ R = R' := by
  have e : P = P' := Int.le_antisymm (h.least _ _ h'.pos h'.qp) (h'.least _ _ h.pos h.qp)
  subst e
  exact ⟨rfl, h.qp.rise h'.qp⟩
theorem Least.dvd {f : Int → Int} {P R P' R' : Int} (h : Least f P R) (h' : QP f P' R') : P' = P * (P' / P) ∧ R' = R * (P' / P) := by
  have hq : QP f (P' % P) (R' - R * (P' / P)) := by
    have := h'.add ((h.qp.mul (P' / P)).neg)
    have e1 : P' + -(P' / P * P) = P' % P := by have := Int.mul_ediv_add_emod P' P; rw [Int.mul_comm] at this; omega
    have e2 : R' + -(P' / P * R) = R' - R * (P' / P) := by rw [Int.mul_comm R]; omega
    rw [e1, e2] at this; exact this
  have h0 := Int.emod_nonneg P' (show P ≠ 0 by have := h.pos; omega)
  have h1 := Int.emod_lt_of_pos P' h.pos
  have hz : P' % P = 0 := by
    rcases Int.lt_or_le 0 (P' % P) with hlt | hle
    · have := h.least _ _ hlt hq; omega
    · omega
  have e := Int.mul_ediv_add_emod P' P
  refine ⟨by omega, ?_⟩
  rw [hz] at hq
  have := hq.rise QP.zero
  omega
theorem exists_least {f : Int → Int} : ∀ (n : Nat) {P R : Int}, P.toNat ≤ n → 0 < P → QP f P R → ∃ P0 R0, Least f P0 R0
  | 0, P, R, hn, hp, _ => by omega
  | n + 1, P, R, hn, hp, hq => by
    by_cases h : ∃ P' R', 0 < P' ∧ P' < P ∧ QP f P' R'
    · obtain ⟨P', R', h1, h2, h3⟩ := h
      exact exists_least n (by omega) h1 h3
    · refine ⟨P, R, hp, hq, fun P' R' h1 h3 => ?_⟩
      rcases Int.lt_or_le P' P with hlt | hle
      · exact absurd ⟨P', R', h1, hlt, h3⟩ h
      · exact hle
theorem QP.least {f : Int → Int} {P R : Int} (hp : 0 < P) (hq : QP f P R) : ∃ P0 R0, Least f P0 R0 := exists_least P.toNat (Nat.le_refl _) hp hq

/-! ### steps: period, order -/
theorem ediv_shift (a m k : Int) (h : 0 < m) : (a + m * k) / m = a / m + k := Int.add_mul_ediv_left a k (by omega)
theorem Step.qp {s : Step} (h : s.pos) : QP s.val s.per s.rise := by
  cases s with
  | sc k m c =>
    intro x
    obtain ⟨_, m1, _⟩ := h
    show (k * (x + m) + c) / m = (k * x + c) / m + k
    rw [show k * (x + m) + c = k * x + c + m * k by rw [Int.mul_add, Int.mul_comm k m]; omega]
    exact ediv_shift _ _ _ (by omega)
  | ev m =>
    intro x
    have m1 : 1 ≤ m := h.1
    show (Step.ev m).val (x + if m % 2 = 0 then 2 * m else m) = (Step.ev m).val x + if m % 2 = 0 then 2 else 1
    split
    · rename_i he
      have e1 : (x + 2 * m) / m = x / m + 2 := by rw [show 2 * m = m * 2 by omega]; exact ediv_shift _ _ _ (by omega)
      have e2 : (x + 2 * m) % m = x % m := by rw [show 2 * m = m * 2 by omega]; exact Int.add_mul_emod_self_left x m 2
      simp only [Step.val, e1, e2]
      split <;> (try split) <;> omega
    · rename_i he
      have e1 : (x + m) / m = x / m + 1 := by have := ediv_shift x m 1 (by omega); simpa using this
      have e2 : (x + m) % m = x % m := by have := Int.add_mul_emod_self_left x m 1; simpa using this
      simp only [Step.val, e1, e2]
      split <;> (try split) <;> omega
theorem Step.rise_pos {s : Step} (h : s.pos) : 1 ≤ s.rise ∧ s.rise ≤ 120 := by
  cases s with
  | sc k m c => exact h.1
  | ev m => unfold Step.rise; dsimp only; split <;> omega
theorem Step.per_pos' {s : Step} (h : s.pos) : 1 ≤ s.per ∧ s.per ≤ 288 := by
  cases s with
  | sc k m c => exact ⟨h.2.1, Int.le_trans h.2.2 (by decide)⟩
  | ev m =>
    have h1 := h.1; have h2 := h.2
    unfold Step.per; dsimp only; split <;> omega
theorem Step.mono {s : Step} (h : s.pos) {x y : Int} (hxy : x ≤ y) : s.val x ≤ s.val y := by
  cases s with
  | sc k m c =>
    obtain ⟨⟨k1, _⟩, m1, _⟩ := h
    exact Int.ediv_le_ediv (by omega) (Int.add_le_add_right (Int.mul_le_mul_of_nonneg_left hxy (by omega)) _)
  | ev m =>
    have m1 : 1 ≤ m := h.1
    have hm : 0 < m := by omega
    have a1 := Int.mul_ediv_add_emod x m
    have a2 := Int.mul_ediv_add_emod y m
    have b1 := emod_b (x := x) hm
    have b2 := emod_b (x := y) hm
    have hq : x / m ≤ y / m := Int.ediv_le_ediv hm hxy
    simp only [Step.val]
    rcases Int.lt_or_eq_of_le hq with hlt | heq
    · split <;> split <;> (try split) <;> (try split) <;> omega
    · rw [← heq] at a2 ⊢
      split <;> split <;> (try split) <;> (try split) <;> omega
theorem Pipe.mono {p : Pipe} (h : p.pos) {x y : Int} (hxy : x ≤ y) : p.val x ≤ p.val y := by
  induction p generalizing x y with
  | nil => exact hxy
  | cons s p ih =>
    rw [Pipe.val_cons, Pipe.val_cons]
    exact ih (fun t ht => h t (by simp [ht])) (Step.mono (h s (by simp)) hxy)
def Pipe.rises (p : Pipe) : Int := (p.map Step.rise).foldl (fun a b => a * b) 1
theorem Pipe.rises_cons (p : Pipe) (s : Step) : Pipe.rises (s :: p) = s.rise * Pipe.rises p := by
  unfold Pipe.rises
  simp only [List.map_cons, List.foldl_cons]
  rw [foldl_mul]
  simp
theorem Pipe.prod_pos' : ∀ {p : Pipe}, p.pos → 1 ≤ p.prod
  | [], _ => by decide
  | s :: p, h => by
    rw [Pipe.prod_cons]
    exact one_le_mul (Step.per_pos' (h s (by simp))).1 (Pipe.prod_pos' fun t ht => h t (by simp [ht]))
theorem Pipe.rises_pos : ∀ {p : Pipe}, p.pos → 1 ≤ p.rises
  | [], _ => by decide
  | s :: p, h => by
    rw [Pipe.rises_cons]
    exact one_le_mul (Step.rise_pos (h s (by simp))).1 (Pipe.rises_pos fun t ht => h t (by simp [ht]))
/-- the product of all step periods is a period -/
theorem Pipe.qp : ∀ {p : Pipe}, p.pos → QP p.val p.prod p.rises
  | [], _ => fun x => by show x + 1 = x + 1; rfl
  | s :: p, h => by
    have hs := Step.qp (h s (by simp))
    have hp := Pipe.qp (p := p) fun t ht => h t (by simp [ht])
    rw [Pipe.prod_cons, Pipe.rises_cons]
    have h1 : QP s.val (s.per * (Pipe.prod p)) (s.rise * (Pipe.prod p)) := by
      have := hs.mul (Pipe.prod p)
      rw [Int.mul_comm (Pipe.prod p), Int.mul_comm (Pipe.prod p)] at this; exact this
    have h2 : QP (Pipe.val p) (s.rise * (Pipe.prod p)) (s.rise * (Pipe.rises p)) := hp.mul s.rise
    exact h1.comp h2
theorem Pipe.least_ex {p : Pipe} (h : p.pos) : ∃ P R, Least p.val P R := QP.least (by have := Pipe.prod_pos' h; omega) (Pipe.qp h)
theorem Least.bounds {p : Pipe} (h : p.pos) {P R : Int} (hl : Least p.val P R) : P ≤ p.prod ∧ 1 ≤ R := by
  refine ⟨hl.least _ _ (by have := Pipe.prod_pos' h; omega) (Pipe.qp h), ?_⟩
  have hd := hl.dvd (Pipe.qp h)
  have hr := Pipe.rises_pos h
  have hp := Pipe.prod_pos' h
  have hq : 0 ≤ p.prod / P := Int.ediv_nonneg (by omega) (by have := hl.pos; omega)
  rcases Int.lt_or_le 0 R with h0 | h0
  · omega
  · have : R * (p.prod / P) ≤ 0 := Int.mul_nonpos_of_nonpos_of_nonneg h0 hq
    omega
/-- agreeing with its own shift over one period -/
theorem QP.of_window {f : Int → Int} {L R d : Int} (hL : 0 < L) (hq : QP f L R) (h : ∀ x, 0 ≤ x → x < L → f (x + 1 + d) - f (x + d) = f (x + 1) - f x) : QP f d (f d - f 0) := by
  have hall : ∀ x, f (x + 1 + d) - f (x + d) = f (x + 1) - f x := by
    intro x
    have e := Int.mul_ediv_add_emod x L
    have b := emod_b (x := x) hL
    have hk := hq.mul (x / L)
    have h1 := h (x % L) b.1 b.2
    have a1 := hk (x % L + 1 + d)
    have a2 := hk (x % L + d)
    have a3 := hk (x % L + 1)
    have a4 := hk (x % L)
    rw [Int.mul_comm] at e
    rw [show x % L + 1 + d + x / L * L = x + 1 + d by omega] at a1
    rw [show x % L + d + x / L * L = x + d by omega] at a2
    rw [show x % L + 1 + x / L * L = x + 1 by omega] at a3
    rw [show x % L + x / L * L = x by omega] at a4
    omega
  have up : ∀ n : Nat, f ((n : Int) + d) = f n + (f d - f 0) := by
    intro n
    induction n with
    | zero => have : ((0 : Nat) : Int) + d = d := by omega
              rw [this]; show f d = f 0 + _; omega
    | succ n ih => have := hall n; push_cast; omega
  have dn : ∀ n : Nat, f (-(n : Int) + d) = f (-(n : Int)) + (f d - f 0) := by
    intro n
    induction n with
    | zero => have e1 : -((0 : Nat) : Int) + d = d := by omega
              have e2 : -((0 : Nat) : Int) = 0 := by omega
              rw [e1, e2]; omega
    | succ n ih =>
      have := hall (-((n : Int) + 1))
      rw [show -((n : Int) + 1) + 1 + d = -(n : Int) + d by omega, show -((n : Int) + 1) + 1 = -(n : Int) by omega] at this
      push_cast; omega
  intro x
  rcases Int.le_total 0 x with hx | hx
  · obtain ⟨n, rfl⟩ := Int.eq_ofNat_of_zero_le hx
    exact up n
  · obtain ⟨n, hn⟩ := Int.eq_ofNat_of_zero_le (show 0 ≤ -x by omega)
    rw [show x = -(n : Int) by omega]; exact dn n
end My

namespace My
open PySem L2
/-! ### more rules with K said -/
section
variable {X : Cx} (K : PySem.W.Frag)
theorem kcatA (h : X.K = K := by rfl) : OpR X (binaryOp .Add) (rCatA K) := by subst h; exact op_catA
theorem ksl_tupA (h : X.K = K := by rfl) : SlR X (rSlA K) := by subst h; exact sl_tupA
theorem kpe_revL {e : Expr} {te : TE} {k : Nat} {p1 p2 p3 pos : Pos} (he : PE X e te) (h : X.K = K := by rfl) : PE X (.Subscript e (.Slice none none (some (.UnaryOp .USub (.Constant (.int 1) k p1) p2)) p3) pos) (tRevL K te) := by subst h; exact pe_revL he
theorem kpi_zip {e e2 : Expr} {ta : TA} {p pos tpos : Pos} {elts : List Expr} {kk : Nat} (hg : Gl X "zip") (hm : X.mg "zip" = none) (ha : PA X [e, e2] ta) (h : X.K = K := by rfl)
    (hs : starEach [e, e2] X.env = (false, eval e X.env) :: starEach [e2] X.env := by rfl) (hpl : (backTo pos (starEach [e2] X.env)).any (·.1) = false := by rfl) :
    PI X (.Tuple elts kk tpos) (.Call (.Name "zip" p) [e, e2] [] pos) (iZip K ta) := by subst h; exact pi_zip hg hm ha hs hpl
theorem kpi_enum {e : Expr} {ta : TA} {p pos tpos : Pos} {elts : List Expr} {kk : Nat} (hg : Gl X "enumerate") (hm : X.mg "enumerate" = none) (ha : PA X [e] ta) (h : X.K = K := by rfl) (hs : starEach [e] X.env = [(false, eval e X.env)] := by rfl) :
    PI X (.Tuple elts kk tpos) (.Call (.Name "enumerate" p) [e] [] pos) (iEnum K ta) := by subst h; exact pi_enum hg hm ha hs
end
/-! ### readings -/
def nZip (K : PySem.W.Frag) (vs : List V) (H1 : Hp) (R : It → Hp → Prop) : Prop := ∃ a b xs ys, vs = [.ref a, .ref b] ∧ SqL K H1 a xs ∧ SqL K H1 b ys ∧ R (Itz K a b) H1
def nEnum (K : PySem.W.Frag) (vs : List V) (H1 : Hp) (R : It → Hp → Prop) : Prop := ∃ a xs, vs = [.ref a] ∧ SqL K H1 a xs ∧ R (Ite K a) H1
section
variable {K : PySem.W.Frag} {σ : St} {H : Hp} {Q : VK} {te : TE} {ta : TA} {R : It → Hp → Prop} {tl th : TO}
theorem i_zip (h : ta σ H fun vs H1 => nZip K vs H1 R) : iZip K ta σ H R := h
theorem i_z {a b : Addr} {xs ys : List V} (e : SqL K H a xs) (e' : SqL K H b ys) (h : R (Itz K a b) H) : nZip K [.ref a, .ref b] H R := ⟨a, b, xs, ys, rfl, e, e', h⟩
theorem i_enum (h : ta σ H fun vs H1 => nEnum K vs H1 R) : iEnum K ta σ H R := h
theorem i_e {a : Addr} {xs : List V} (e : SqL K H a xs) (h : R (Ite K a) H) : nEnum K [.ref a] H R := ⟨a, xs, rfl, e, h⟩
theorem r_sl {r : V → Option Int → Option Int → Hp → VK → Prop} (h : te σ H fun x H1 => tl σ H1 fun l H2 => th σ H2 fun u H3 => r x l u H3 Q) : tSl r te tl th σ H Q := h
theorem r_nopart {Q : Option Int → Hp → Prop} (h : Q none H) : tNoPart σ H Q := h
theorem r_part {Q : Option Int → Hp → Prop} (h : te σ H fun x H1 => ∃ i, x = .int i ∧ Q (some i) H1) : tPart te σ H Q := h
theorem r_slL {a : Addr} {xs : List V} {lo hi : Option Int} (h : SqL K H a xs) (q : ∀ p, H p = none → Q (.ref p) (L2.upd H p (.lst (cutV xs lo hi)))) : rSlL K (.ref a) lo hi H Q := ⟨a, xs, rfl, h, q⟩
theorem r_cat {a b : Addr} {xs ys : List V} (h : H a = some (.lst xs)) (h' : H b = some (.lst ys)) (s : xs.length + ys.length ≤ sizeLine) (q : ∀ p, H p = none → Q (.ref p) (L2.upd H p (.lst (xs ++ ys)))) : rCat (.ref a) (.ref b) H Q := ⟨a, b, xs, ys, rfl, rfl, h, h', s, q⟩
theorem r_revL (h : te σ H fun x H1 => ∃ a xs, x = .ref a ∧ SqL K H1 a xs ∧ ∀ p, H1 p = none → Q (.ref p) (L2.upd H1 p (.lst xs.reverse))) : tRevL K te σ H Q := h
theorem r_minI {a : Addr} {ns : List Int} {m : Int} (h : SqL K H a (ns.map V.int)) (hm : m ∈ ns) (hl : ∀ y ∈ ns, m ≤ y) (q : Q (.int m) H) : rMin K [.ref a] H Q :=
  ⟨a, ns, rfl, h, List.length_pos_of_mem hm, fun m' hm' hl' => by rw [show m' = m from Int.le_antisymm (hl' m hm) (hl m' hm')]; exact q⟩
theorem r_maxI {a : Addr} {ns : List Int} {m : Int} (h : SqL K H a (ns.map V.int)) (hm : m ∈ ns) (hl : ∀ y ∈ ns, y ≤ m) (q : Q (.int m) H) : rMax K [.ref a] H Q :=
  ⟨a, ns, rfl, h, List.length_pos_of_mem hm, fun m' hm' hl' => by rw [show m' = m from Int.le_antisymm (hl m' hm') (hl' m hm)]; exact q⟩
theorem Dp.mkT {a : Addr} {xs : List V} {ds : List PyData} (h : SqT K H a xs) (r : DpAll K H xs ds) : Dp K H (.ref a) (.tuple ds) := .tup h r
theorem Dp.mkL {a : Addr} {xs : List V} {ds : List PyData} (h : SqL K H a xs) (r : DpAll K H xs ds) : Dp K H (.ref a) (.list ds) := .lst h r
theorem Dp.mkI {a : Addr} {ns : List Int} (h : SqT K H a (ns.map V.int)) : Dp K H (.ref a) (.tuple (ns.map PyData.int)) := dpIntsT h
theorem dpNil : DpAll K H [] [] := .nil
theorem dpCons {v : V} {vs : List V} {d : PyData} {ds : List PyData} (h : Dp K H v d) (t : DpAll K H vs ds) : DpAll K H (v :: vs) (d :: ds) := .cons h t
end
theorem cut_from (xs : List V) (a : Nat) : cutV xs (some (a : Int)) none = xs.drop a := by
  unfold cutV
  rw [HT.sIx_nat, HT.sIx_none]
  rcases Nat.le_total a xs.length with h | h
  · rw [Nat.min_eq_left h]; exact List.take_of_length_le (by simp)
  · rw [Nat.min_eq_right h, List.drop_eq_nil_of_le h, List.drop_eq_nil_of_le (Nat.le_refl _)]; simp
theorem cut_to (xs : List V) (b : Nat) : cutV xs none (some (b : Int)) = xs.take b := by
  unfold cutV
  rw [HT.sIx_nat, HT.sIx_none]
  rcases Nat.le_total b xs.length with h | h
  · rw [Nat.min_eq_left h]; simp
  · rw [Nat.min_eq_right h]; simp [List.take_of_length_le h]
theorem cut_from' (xs : List V) {a : Int} (h : 0 ≤ a) : cutV xs (some a) none = xs.drop a.toNat := by
  rw [← cut_from, Int.toNat_of_nonneg h]
theorem cut_to' (xs : List V) {a : Int} (h : 0 ≤ a) : cutV xs none (some a) = xs.take a.toNat := by
  rw [← cut_to, Int.toNat_of_nonneg h]
theorem eqv_ints : ∀ ns ms : List Int, PyData.eqvAll (ns.map PyData.int) (ms.map PyData.int) = decide (ns = ms)
  | [], [] => rfl
  | [], _ :: _ => by simp [PyData.eqvAll]
  | _ :: _, [] => by simp [PyData.eqvAll]
  | n :: ns, m :: ms => by
    simp only [List.map_cons, PyData.eqvAll, PyData.eqv, eqv_ints ns ms]
    by_cases h : n = m
    · subst h; simp
    · simp [h]
section
variable {K : PySem.W.Frag} {H : Hp} {Q : VK}
theorem r_eqIntsD {a b : Addr} {ns ms : List Int} (h1 : SqL K H a (ns.map V.int)) (h2 : SqL K H b (ms.map V.int)) (q : Q (.bl (decide (ns = ms))) H) : rEqD K (.ref a) (.ref b) H Q :=
  r_eqD (dpInts h1) (dpInts h2) (shaped_ints ns) (shaped_ints ms) (by rw [show PyData.eqv (.list (ns.map PyData.int)) (.list (ms.map PyData.int)) = PyData.eqvAll (ns.map PyData.int) (ms.map PyData.int) by rw [PyData.eqv], eqv_ints]; exact q)
end
/-- a comprehension over two lists side by side -/
theorem ll_zip {K : PySem.W.Frag} {σ : St} {H : Hp} {Q : VK} {te : TE} {α : Type} {i0 j0 : Nat} {a b : Addr} {xs ys : List V} {zs : List α} (f : α → V) (hx : SqL K H a xs) (hy : SqL K H b ys) (h1 : zs.length ≤ xs.length) (h2 : zs.length ≤ ys.length) (h3 : xs.length ≤ zs.length ∨ ys.length ≤ zs.length) (hsz : zs.length < 16777216)
    (hw : ∀ x y, wipe (((wipe σ [i0, j0]).set i0 (some x)).set j0 (some y)) [i0, j0] = wipe σ [i0, j0])
    (hs : ∀ (i : Nat) (x y : V) (z : α) (H' : Hp) (Q' : VK), xs[i]? = some x → ys[i]? = some y → zs[i]? = some z → Same H H' → (∀ H4, Same H' H4 → Q' (f z) H4) → te (((wipe σ [i0, j0]).set i0 (some x)).set j0 (some y)) H' Q')
    (hd : ∀ D H', Same H H' → H' D = some (.lst (zs.map f)) → H D = none → Q (.ref D) H') : LLoop (Itz K a b) (gTup K 2 (gCons (gName i0) (gCons (gName j0) gNil))) tYes te [i0, j0] σ H Q := by
  intro D hD
  refine ⟨fun i m H' => m = zs.length - i ∧ i ≤ zs.length ∧ Same H H' ∧ H' D = some (.lst ((zs.take i).map f)), ⟨_, rfl, Nat.zero_le _, Same.up (Same.refl _) hD, upd_same⟩, ?_⟩
  rintro i m H' ⟨rfl, hi, hS, hl⟩
  by_cases hlt : i < zs.length
  · have ex : xs[i]? = some xs[i] := List.getElem?_eq_getElem (by omega)
    have ey : ys[i]? = some ys[i] := List.getElem?_eq_getElem (by omega)
    have ez : zs[i]? = some zs[i] := List.getElem?_eq_getElem hlt
    refine .inr ⟨⟨xs, ys, _, _, SqL.same hS hx, SqL.same hS hy, ex, ey⟩, fun H3 => Same H H3 ∧ H3 D = some (.lst ((zs.take (i + 1)).map f)), fun H3 h => ⟨zs.length - (i + 1), by omega, rfl, hlt, h.1, h.2⟩, ?_⟩
    rintro v H2 ⟨T, x, y, rfl, hT, rfl, fx, fy⟩
    have e1 : x = xs[i] := Option.some.inj ((fx _ (SqL.same hS hx)).symm.trans ex)
    have e2 : y = ys[i] := Option.some.inj ((fy _ (SqL.same hS hy)).symm.trans ey)
    subst e1; subst e2
    refine ⟨T, _, rfl, SqT.new, rfl, _, _, rfl, _, _, rfl, rfl, hw _ _, ?_⟩
    show te _ _ _
    refine hs i _ _ _ _ _ ex ey ez (Same.up hS hT) fun H4 h4 => ⟨_, h4 _ _ (HAt.hu hT hl), ?_, Same.upN ((Same.up hS hT).trans h4) hD, ?_⟩
    · rw [List.length_map, List.length_take, PySem.sizeLine_eq]; omega
    · rw [upd_same, List.take_add_one, ez, List.map_append]; rfl
  · have e : i = zs.length := by omega
    subst e
    refine .inl ⟨⟨xs, ys, SqL.same hS hx, SqL.same hS hy, h3⟩, hd D H' hS ?_ hD⟩
    rw [hl, List.take_length]
/-! ### differences -/
def diffs (f : Int → Int) (n : Nat) : List Int := (List.range n).map fun (x : Nat) => f ((x : Int) + 1) - f x
theorem diffs_len (f : Int → Int) (n : Nat) : (diffs f n).length = n := by simp [diffs]
theorem diffs_get {f : Int → Int} {n i : Nat} (h : i < n) : (diffs f n)[i]? = some (f (i + 1) - f i) := by simp [diffs, h]
theorem diffs_sum (f : Int → Int) : ∀ n : Nat, (diffs f n).sum = f n - f 0
  | 0 => by simp [diffs]
  | n + 1 => by
    have ih := diffs_sum f n
    unfold diffs at ih ⊢
    rw [List.range_succ, List.map_append, List.sum_append, ih]
    simp
    omega
theorem diffs_take (f : Int → Int) {n d : Nat} (h : d ≤ n) : (diffs f n).take d = diffs f d := by
  unfold diffs
  rw [← List.map_take, List.take_range, Nat.min_eq_left h]
theorem rot_diffs {f : Int → Int} {n d : Nat} {R : Int} (hq : QP f n R) (h : d ≤ n) : (diffs f n).drop d ++ (diffs f n).take d = (List.range n).map fun (x : Nat) => f ((x : Int) + 1 + d) - f ((x : Int) + d) := by
  apply List.ext_getElem?
  intro i
  rcases Nat.lt_or_ge i (n - d) with h1 | h1
  · rw [List.getElem?_append_left (by simp [diffs_len]; omega), List.getElem?_drop, diffs_get (by omega)]
    simp [show i < n by omega]
    congr 2 <;> omega
  · rw [List.getElem?_append_right (by simp [diffs_len]; omega), List.length_drop, diffs_len]
    rcases Nat.lt_or_ge i n with h2 | h2
    · rw [List.getElem?_take_of_lt (by omega), diffs_get (by omega)]
      simp [h2]
      have a1 := hq ((((i - (n - d) : Nat) : Int)) + 1)
      have a2 := hq (((i - (n - d) : Nat) : Int))
      rw [show (((i - (n - d) : Nat) : Int)) + 1 + n = (i : Int) + 1 + d by omega] at a1
      rw [show (((i - (n - d) : Nat) : Int)) + n = (i : Int) + d by omega] at a2
      omega
    · rw [List.getElem?_eq_none (by simp [diffs_len]; omega), List.getElem?_eq_none (by simp; omega)]
theorem rot_iff {f : Int → Int} {n d : Nat} {R : Int} (hn : 0 < n) (hq : QP f n R) (h : d ≤ n) : (diffs f n).drop d ++ (diffs f n).take d = diffs f n ↔ QP f d (f d - f 0) := by
  rw [rot_diffs hq h]
  constructor
  · intro e
    refine QP.of_window (L := n) (R := R) (by omega) hq fun x h0 h1 => ?_
    have := congrArg (fun l => l[x.toNat]?) e
    simp only [List.getElem?_map, diffs, List.getElem?_range (show x.toNat < n by omega), Option.map_some, Option.some.injEq] at this
    rw [show ((x.toNat : Nat) : Int) = x by omega] at this
    exact this
  · intro hd
    unfold diffs
    apply List.map_congr_left
    intro x _
    rw [hd, hd]; omega
/-- what the search for the least period finds -/
theorem least_found {f : Int → Int} {n d : Nat} {R : Int} (hn : 0 < n) (hq : QP f n R) (hd : 0 < d) (hdn : d ≤ n) (hr : (diffs f n).drop d ++ (diffs f n).take d = diffs f n)
    (hno : ∀ e : Nat, 0 < e → e < d → n % e = 0 → (diffs f n).drop e ++ (diffs f n).take e ≠ diffs f n) : Least f d (f d - f 0) := by
  have qd := (rot_iff hn hq hdn).mp hr
  obtain ⟨P, R', hl⟩ := QP.least (f := f) (P := (n : Int)) (R := R) (by omega) hq
  have hle := hl.least _ _ (by omega) qd
  have hdv := hl.dvd hq
  have hp := hl.pos
  have e : P = d := by
    rcases Int.lt_or_eq_of_le hle with hlt | he
    · exfalso
      have en : n % P.toNat = 0 := by
        have : ((n : Int)) % P = 0 := by rw [hdv.1]; exact Int.mul_emod_right _ _
        have h2 : ((n % P.toNat : Nat) : Int) = 0 := by rw [Int.natCast_emod, Int.toNat_of_nonneg (by omega)]; exact this
        omega
      refine hno P.toNat (by omega) (by omega) en ((rot_iff hn hq (by omega)).mpr ?_)
      have hq' := hl.qp
      rw [show ((P.toNat : Nat) : Int) = P by omega]
      have e2 : R' = f P - f 0 := by have := hq' 0; rw [show (0 : Int) + P = P by omega] at this; omega
      rw [← e2]; exact hq'
    · exact he
  subst e
  exact ⟨hp, qd, hl.least⟩
/-! ### fractions -/
def gcdI (a b : Int) : Int := ((a.toNat.gcd b.toNat : Nat) : Int)
theorem gcdI_pos {a b : Int} (h : 0 < b) : 1 ≤ gcdI a b := by
  unfold gcdI
  have := Nat.gcd_pos_of_pos_right a.toNat (show 0 < b.toNat by omega)
  omega
theorem gcdI_le {a b : Int} (h : 0 < b) : gcdI a b ≤ b := by
  unfold gcdI
  have := Nat.gcd_le_right a.toNat (show 0 < b.toNat by omega)
  omega
theorem gcdI_dvd_right {a b : Int} (h : 0 ≤ b) : b = gcdI a b * (b / gcdI a b) := by
  have hd : (gcdI a b) ∣ b := by
    unfold gcdI
    have := Nat.gcd_dvd_right a.toNat b.toNat
    have h2 : ((b.toNat : Nat) : Int) = b := by omega
    rw [← h2]; exact Int.natCast_dvd_natCast.mpr (by rw [show (((b.toNat : Nat) : Int)).toNat = b.toNat by omega]; exact this)
  exact (Int.mul_ediv_cancel' hd).symm
theorem gcdI_dvd_left {a b : Int} (h : 0 ≤ a) : a = gcdI a b * (a / gcdI a b) := by
  have hd : (gcdI a b) ∣ a := by
    unfold gcdI
    have := Nat.gcd_dvd_left a.toNat b.toNat
    have h2 : ((a.toNat : Nat) : Int) = a := by omega
    rw [← h2]; exact Int.natCast_dvd_natCast.mpr (by rw [show (((a.toNat : Nat) : Int)).toNat = a.toNat by omega]; exact this)
  exact (Int.mul_ediv_cancel' hd).symm
theorem gcdI_step {a b : Int} (ha : 0 ≤ a) (hb : 0 < b) : gcdI b (a % b) = gcdI a b := by
  unfold gcdI
  have e : (a % b).toNat = a.toNat % b.toNat := by
    have h1 : ((a.toNat % b.toNat : Nat) : Int) = a % b := by rw [Int.natCast_emod, Int.toNat_of_nonneg ha, Int.toNat_of_nonneg (by omega)]
    omega
  rw [e, Nat.gcd_comm b.toNat, ← Nat.gcd_rec, Nat.gcd_comm]
theorem gcdI_zero {a : Int} (ha : 0 ≤ a) : gcdI a 0 = a := by unfold gcdI; simp; omega
def absI (i : Int) : Int := if i < 0 then -i else i
def frTop (t b : Int) : Int := t / gcdI (absI t) b
def frBot (t b : Int) : Int := b / gcdI (absI t) b
theorem absI_nn (i : Int) : 0 ≤ absI i := by unfold absI; split <;> omega
end My
namespace My
open PySem L2
section
variable {K : PySem.W.Frag} {H : Hp} {Q : VK}
theorem r_slFromI {a : Addr} {ns : List Int} {n : Nat} (h : SqL K H a (ns.map V.int)) (q : ∀ p, H p = none → Q (.ref p) (L2.upd H p (.lst ((ns.drop n).map V.int)))) : rSlL K (.ref a) (some ((n : Nat) : Int)) none H Q :=
  r_slL h (by rw [cut_from, ← List.map_drop]; exact q)
theorem r_slToI {a : Addr} {ns : List Int} {n : Nat} (h : SqL K H a (ns.map V.int)) (q : ∀ p, H p = none → Q (.ref p) (L2.upd H p (.lst ((ns.take n).map V.int)))) : rSlL K (.ref a) none (some ((n : Nat) : Int)) H Q :=
  r_slL h (by rw [cut_to, ← List.map_take]; exact q)
theorem r_sl1I {a : Addr} {ns : List Int} (h : SqL K H a (ns.map V.int)) (q : ∀ p, H p = none → Q (.ref p) (L2.upd H p (.lst ((ns.drop 1).map V.int)))) : rSlL K (.ref a) (some 1) none H Q := r_slFromI (n := 1) h q
theorem r_catI {a b : Addr} {xs ys : List Int} (h : H a = some (.lst (xs.map V.int))) (h' : H b = some (.lst (ys.map V.int))) (s : xs.length + ys.length ≤ sizeLine) (q : ∀ p, H p = none → Q (.ref p) (L2.upd H p (.lst ((xs ++ ys).map V.int)))) : rCat (.ref a) (.ref b) H Q :=
  r_cat h h' (by rw [List.length_map, List.length_map]; exact s) (by rw [← List.map_append]; exact q)
end
theorem period_step {f : Int → Int} {s : Step} {L R M : Int} (hs : s.pos) (hq : QP f L R) (hL : 1 ≤ L) (hM : L ≤ M) (hR : 1 ≤ R) :
    1 ≤ s.per / gcdI R s.per ∧ s.per / gcdI R s.per ≤ 288 ∧ QP (fun x => s.val (f x)) (L * (s.per / gcdI R s.per)) (R * (s.per / gcdI R s.per) * s.rise / s.per) ∧ 1 ≤ L * (s.per / gcdI R s.per) ∧ L * (s.per / gcdI R s.per) ≤ M * s.per ∧ 1 ≤ R * (s.per / gcdI R s.per) * s.rise / s.per := by
  obtain ⟨o1, o2⟩ := Step.per_pos' hs
  obtain ⟨o3, o4⟩ := Step.rise_pos hs
  have e1 := gcdI_dvd_left (a := R) (b := s.per) (by omega)
  have e2 := gcdI_dvd_right (a := R) (b := s.per) (by omega)
  have gp := gcdI_pos (a := R) (b := s.per) (by omega)
  generalize gcdI R s.per = g at *
  generalize ht : s.per / g = t at *
  generalize ha : R / g = a at *
  have t1 : 1 ≤ t := by
    rcases Int.lt_or_le t 1 with h | h
    · have := Int.mul_nonpos_of_nonneg_of_nonpos (show 0 ≤ g by omega) (show t ≤ 0 by omega); omega
    · exact h
  have a1 : 1 ≤ a := by
    rcases Int.lt_or_le a 1 with h | h
    · have := Int.mul_nonpos_of_nonneg_of_nonpos (show 0 ≤ g by omega) (show a ≤ 0 by omega); omega
    · exact h
  have t2 : t ≤ s.per := by
    have := Int.mul_le_mul_of_nonneg_right gp (show 0 ≤ t by omega)
    omega
  have e3 : R * t = a * s.per := by rw [e1, e2]; rw [Int.mul_comm g a, Int.mul_assoc]
  have e4 : R * t * s.rise / s.per = a * s.rise := by
    rw [e3, Int.mul_assoc, Int.mul_comm s.per, ← Int.mul_assoc]
    exact Int.mul_ediv_cancel _ (by omega)
  refine ⟨t1, by omega, ?_, one_le_mul hL t1, ?_, ?_⟩
  · rw [e4]
    have h1 := hq.mul t
    have h2 := (Step.qp hs).mul a
    rw [Int.mul_comm t L, Int.mul_comm t R, e3] at h1
    exact h1.comp h2
  · exact Int.mul_le_mul hM t2 (by omega) (by omega)
  · rw [e4]; exact one_le_mul a1 o3
theorem Pipe.val_take_fun {p : Pipe} {i : Nat} {s : Step} (h : p[i]? = some s) : (fun x => s.val (Pipe.val (p.take i) x)) = Pipe.val (p.take (i + 1)) := funext fun x => (Pipe.val_take h x).symm
end My
namespace My
open PySem L2
theorem kmt_lcount {X : Cx} (K : PySem.W.Frag) (h : X.K = K := by rfl) : MtR X "list.count" (rCntI K) := by subst h; exact mt_lcount
theorem r_lcount {K : PySem.W.Frag} {H : Hp} {Q : VK} {p : Addr} {ns : List Int} {k : Int} (h : SqL K H p (ns.map V.int)) (q : Q (.int (ns.count k : Nat)) H) : rCntI K (.ref p) [.int k] H Q := ⟨p, ns, k, rfl, rfl, h, q⟩
theorem r_tyL' {K' K : PySem.W.Frag} {H : Hp} {A : Prop} {l : Addr} {xs : List V} (h : H l = some (.lst xs)) (q : A) : tyV K' "list" (.ref l) H ∧ A := ⟨.inl ⟨rfl, _, SqL.of h⟩, q⟩
end My
namespace My
open PySem L2
theorem r_ixRange {K : PySem.W.Frag} {H : Hp} {Q : VK} {a : Addr} {f : Nat → Int} {n : Nat} {j : Int} (h : SqL K H a (((List.range n).map f).map V.int)) (h0 : 0 ≤ j) (h1 : j < n) (q : Q (.int (f j.toNat)) H) : rIxL K (.ref a) (.int j) H Q :=
  r_ixL h (at_of (j := j.toNat) (by omega) (by rw [List.getElem?_map, List.getElem?_map, List.getElem?_range (by omega)]; rfl)) q
theorem QP.of_window2 {f : Int → Int} {L R d g : Int} (hL : 0 < L) (hq : QP f L R) (h : ∀ x, 0 ≤ x → x < L → f (x + d) - f x = g) : QP f d g := by
  intro x
  have e := Int.mul_ediv_add_emod x L
  have b := emod_b (x := x) hL
  have hk := hq.mul (x / L)
  have h1 := h (x % L) b.1 b.2
  have a1 := hk (x % L + d)
  have a2 := hk (x % L)
  rw [Int.mul_comm] at e
  rw [show x % L + d + x / L * L = x + d by omega] at a1
  rw [show x % L + x / L * L = x by omega] at a2
  omega
theorem least_found2 {f : Int → Int} {n d : Nat} {R g : Int} (hn : 0 < n) (hq : QP f n R) (hd : 0 < d) (hw : QP f d g) (hno : ∀ e : Nat, 0 < e → e < d → n % e = 0 → ¬ ∃ g', QP f e g') : Least f d g := by
  obtain ⟨P, R', hl⟩ := QP.least (f := f) (P := (n : Int)) (R := R) (by omega) hq
  have hle := hl.least _ _ (by omega) hw
  have hdv := hl.dvd hq
  have hp := hl.pos
  have e : P = d := by
    rcases Int.lt_or_eq_of_le hle with hlt | he
    · exfalso
      have en : n % P.toNat = 0 := by
        have : ((n : Int)) % P = 0 := by rw [hdv.1]; exact Int.mul_emod_right _ _
        have h2 : ((n % P.toNat : Nat) : Int) = 0 := by rw [Int.natCast_emod, Int.toNat_of_nonneg (by omega)]; exact this
        omega
      refine hno P.toNat (by omega) (by omega) en ⟨R', ?_⟩
      rw [show ((P.toNat : Nat) : Int) = P by omega]; exact hl.qp
    · exact he
  subst e
  exact ⟨hp, hw, hl.least⟩
/-- the gaps at a distance are all alike -/
def gapsL (f : Int → Int) (n : Nat) (d : Int) : List Int := (List.range n).map fun (x : Nat) => f ((x : Int) + d) - f x
theorem gaps_iff {f : Int → Int} {n : Nat} {d R : Int} (hn : 0 < n) (hq : QP f n R) : ((gapsL f n d).count (f d - f 0) : Int) = ((gapsL f n d).length : Int) ↔ QP f d (f d - f 0) := by
  rw [Int.ofNat_inj, List.count_eq_length]
  constructor
  · intro h
    refine QP.of_window2 (L := n) (R := R) (by omega) hq fun x h0 h1 => ?_
    have := h (f (x + d) - f x) (by
      unfold gapsL
      refine List.mem_map.mpr ⟨x.toNat, List.mem_range.mpr (by omega), ?_⟩
      rw [show ((x.toNat : Nat) : Int) = x by omega])
    omega
  · intro h b hb
    unfold gapsL at hb
    obtain ⟨x, _, rfl⟩ := List.mem_map.mp hb
    rw [h]; omega
end My
namespace My
open PySem L2
def scaled (f : Int → Int) (P R : Int) : List Int := (List.range P.toNat).map fun (x : Nat) => P * f x - R * x
def IsMin (m : Int) (l : List Int) : Prop := m ∈ l ∧ ∀ y ∈ l, m ≤ y
def IsMax (m : Int) (l : List Int) : Prop := m ∈ l ∧ ∀ y ∈ l, y ≤ m
theorem scaled_ne {f : Int → Int} {P R : Int} (h : 0 < P) : 0 < (scaled f P R).length := by simp [scaled]; omega
theorem IsMin.uniq {m m' : Int} {l : List Int} (h : IsMin m l) (h' : IsMin m' l) : m = m' := Int.le_antisymm (h.2 _ h'.1) (h'.2 _ h.1)
theorem IsMax.uniq {m m' : Int} {l : List Int} (h : IsMax m l) (h' : IsMax m' l) : m = m' := Int.le_antisymm (h'.2 _ h.1) (h.2 _ h'.1)
theorem r_minX {K : PySem.W.Frag} {a : Addr} {ns : List Int} {H : Hp} {Q : VK} (h : SqL K H a (ns.map V.int)) (n0 : 0 < ns.length) (q : ∀ m, IsMin m ns → Q (.int m) H) : rMin K [.ref a] H Q := ⟨a, ns, rfl, h, n0, fun m hm hl => q m ⟨hm, hl⟩⟩
theorem r_maxX {K : PySem.W.Frag} {a : Addr} {ns : List Int} {H : Hp} {Q : VK} (h : SqL K H a (ns.map V.int)) (n0 : 0 < ns.length) (q : ∀ m, IsMax m ns → Q (.int m) H) : rMax K [.ref a] H Q := ⟨a, ns, rfl, h, n0, fun m hm hl => q m ⟨hm, hl⟩⟩
abbrev frD (t b : Int) : PyData := .tuple [.int (frTop t b), .int (frBot t b)]
abbrev nfD (f : Int → Int) (P : Int) : PyData := .tuple [.int P, .int (f 0), .tuple ((diffs f P.toNat).map PyData.int)]

theorem cutV_whole {xs : List V} {lo hi : Option Int} (h : HT.sIx xs.length 0 lo = 0 ∧ HT.sIx xs.length xs.length hi = xs.length) : cutV xs lo hi = xs := by
  unfold cutV; rw [h.1, h.2]; simp
section
variable {K : PySem.W.Frag} {H : Hp} {Q : VK}
theorem r_slT {a : Addr} {xs : List V} {lo hi : Option Int} (h : SqT K H a xs) (q : ∀ p H', Same H H' → SqT K H' p (cutV xs lo hi) → Q (.ref p) H') : rSlA K (.ref a) lo hi H Q :=
  ⟨a, xs, rfl, h, fun hw => q a H (Same.refl _) (by rw [cutV_whole hw]; exact h), fun _ p n => q p _ (Same.up (Same.refl _) n) SqT.new⟩
theorem r_catT {a b : Addr} {xs ys : List V} (h : SqT K H a xs) (h' : SqT K H b ys) (s : xs.length + ys.length ≤ sizeLine) (q : ∀ p H', Same H H' → SqT K H' p (xs ++ ys) → Q (.ref p) H') : rCatA K (.ref a) (.ref b) H Q :=
  ⟨a, b, xs, ys, rfl, rfl, h, h', s, fun e => q b H (Same.refl _) (by rw [e]; exact h'), fun _ e => q a H (Same.refl _) (by rw [e, List.append_nil]; exact h), fun _ _ p n => q p _ (Same.up (Same.refl _) n) SqT.new⟩
theorem Paired.take' {α β : Type} {F : α → β → Prop} : ∀ (n : Nat) {xs : List α} {ys : List β}, Paired F xs ys → Paired F (xs.take n) (ys.take n)
  | 0, _, _, _ => by simp; exact .nil
  | _ + 1, _, _, .nil => .nil
  | n + 1, _, _, .cons r t => .cons r (Paired.take' n t)
theorem Paired.drop' {α β : Type} {F : α → β → Prop} : ∀ (n : Nat) {xs : List α} {ys : List β}, Paired F xs ys → Paired F (xs.drop n) (ys.drop n)
  | 0, _, _, h => h
  | _ + 1, _, _, .nil => .nil
  | n + 1, _, _, .cons _ t => Paired.drop' n t
theorem Paired.app {α β : Type} {F : α → β → Prop} : ∀ {xs xs' : List α} {ys ys' : List β}, Paired F xs ys → Paired F xs' ys' → Paired F (xs ++ xs') (ys ++ ys')
  | _, _, _, _, .nil, s => s
  | _, _, _, _, .cons r t, s => .cons r (Paired.app t s)
theorem r_slPto {a : Addr} {p : Pipe} {n : Nat} (h : PipeAt K H (.ref a) p) (q : ∀ c H', Same H H' → PipeAt K H' (.ref c) (p.take n) → Q (.ref c) H') : rSlA K (.ref a) none (some ((n : Nat) : Int)) H Q := by
  obtain ⟨_, xs, e, h, r⟩ := h
  cases e
  exact r_slT h fun c H' hs ht => q c H' hs ⟨c, _, rfl, ht, by rw [cut_to]; exact Paired.mapP (Paired.take' n r) fun _ _ => StepAt.same hs⟩
theorem r_slPfrom {a : Addr} {p : Pipe} {n : Nat} (h : PipeAt K H (.ref a) p) (q : ∀ c H', Same H H' → PipeAt K H' (.ref c) (p.drop n) → Q (.ref c) H') : rSlA K (.ref a) (some ((n : Nat) : Int)) none H Q := by
  obtain ⟨_, xs, e, h, r⟩ := h
  cases e
  exact r_slT h fun c H' hs ht => q c H' hs ⟨c, _, rfl, ht, by rw [cut_from]; exact Paired.mapP (Paired.drop' n r) fun _ _ => StepAt.same hs⟩
theorem r_slP2 {a : Addr} {p : Pipe} (h : PipeAt K H (.ref a) p) (q : ∀ c H', Same H H' → PipeAt K H' (.ref c) (p.take 2) → Q (.ref c) H') : rSlA K (.ref a) none (some 2) H Q := r_slPto (n := 2) h q
theorem r_catP {a b : Addr} {p p' : Pipe} (h : PipeAt K H (.ref a) p) (h' : PipeAt K H (.ref b) p') (s : p.length + p'.length ≤ 1000) (q : ∀ c H', Same H H' → PipeAt K H' (.ref c) (p ++ p') → Q (.ref c) H') : rCatA K (.ref a) (.ref b) H Q := by
  obtain ⟨_, xs, e, h, r⟩ := h
  cases e
  obtain ⟨_, ys, e, h', r'⟩ := h'
  cases e
  exact r_catT h h' (by rw [Paired.len r, Paired.len r']; exact sz_le (by omega)) fun c H' hs ht => q c H' hs ⟨c, _, rfl, ht, Paired.mapP (Paired.app r r') fun _ _ => StepAt.same hs⟩
end
/-! ### a least period by computation -/
def qpChk (p : Pipe) (d r : Int) : Bool := (List.range p.prod.toNat).all fun (x : Nat) => p.val ((x : Int) + d) - p.val x == r
def leastChk (p : Pipe) (d : Nat) (r : Int) : Bool := decide p.pos && decide (0 < d) && qpChk p d r && (List.range d).all fun (e : Nat) => e == 0 || !qpChk p e (p.val e - p.val 0)
theorem qpChk_iff {p : Pipe} (h : p.pos) {d r : Int} : qpChk p d r = true ↔ QP p.val d r := by
  have hp := Pipe.prod_pos' h
  unfold qpChk
  simp only [List.all_eq_true, List.mem_range, beq_iff_eq]
  constructor
  · intro hx
    refine QP.of_window2 (L := p.prod) (R := p.rises) (by omega) (Pipe.qp h) fun x h0 h1 => ?_
    have := hx x.toNat (by omega)
    rwa [show ((x.toNat : Nat) : Int) = x by omega] at this
  · intro hq x _
    rw [hq]; omega
theorem least_of {p : Pipe} {d : Nat} {r : Int} (h : leastChk p d r = true) : Least p.val d r := by
  unfold leastChk at h
  simp only [Bool.and_eq_true, decide_eq_true_eq, List.all_eq_true, List.mem_range, Bool.or_eq_true, beq_iff_eq, Bool.not_eq_true'] at h
  obtain ⟨⟨⟨hp, hd⟩, hq⟩, hno⟩ := h
  refine ⟨by omega, (qpChk_iff hp).mp hq, fun P' R' h1 h2 => ?_⟩
  rcases Int.lt_or_le P' d with hlt | hle
  · exfalso
    have := hno P'.toNat (by omega)
    rcases this with h | h
    · omega
    · have e : ((P'.toNat : Nat) : Int) = P' := by omega
      rw [e] at h
      have eR : R' = p.val P' - p.val 0 := by have := h2 0; rw [Int.zero_add] at this; omega
      rw [eR] at h2
      rw [(qpChk_iff hp).mpr h2] at h
      cases h
  · exact hle
end My
namespace My
open PySem L2
theorem fl_pipes {K : PySem.W.Frag} {a : Addr} {xs : List V} {g : TG} {tb : TS} {D : Ends} {σ : St} {H : Hp} (hS : SqT K H a xs) (hall : ∀ x ∈ xs, ∃ p, PipeAt K H x p) (Pv : St → Hp → Prop) (h0 : Pv σ H)
    (hs : ∀ x p σ' H', Same H H' → PipeAt K H' x p → Pv σ' H' → g x σ' H' fun σ2 H2 => tb { D with nx := fun σ3 H3 => Same H H3 ∧ Pv σ3 H3, ct := fun σ3 H3 => Same H H3 ∧ Pv σ3 H3, bk := D.nx } σ2 H2)
    (hd : ∀ σ' H', Pv σ' H' → D.nx σ' H') : FLoop (Itt K a) g tb D σ H := by
  refine fl_tup (xs := xs) (fun _ σ' H' => Same H H' ∧ Pv σ' H') ⟨Same.refl _, h0⟩ (fun _ _ _ _ h => SqT.hs h.1 hS) (fun i x σ' H' hx h => ?_) (fun σ' H' h => hd _ _ h.2)
  obtain ⟨p, hp⟩ := hall x (List.mem_of_getElem? hx)
  exact hs x p σ' H' h.1 (PipeAt.hs h.1 hp) h.2
theorem shaped_nf (f : Int → Int) (P : Int) : SeqAt.shaped (nfD f P) = true := by
  have h := lay_ints (diffs f P.toNat)
  unfold SeqAt.shaped
  simp [nfD, PyData.canLay0, PyData.canLayAll0, PyData.depth, PyData.depthAll, h.1, h.2]
end My

/-! ### sum, min and max of a tuple of ints -/
namespace My
open PySem L2 PyProof.Rows
section
variable {prog : Program} {w : World} {A : Around} {E : Value → Shared → Prop} {s : Shared} {l : Addr} {xs : Array (Int × Tok)}
theorem iter_intTup {Q : Value → Shared → Prop} (hl : s.heap.IsTuple l (intItems xs))
    (h : ∀ s₂ : Shared, s₂ = { s with heap := s.heap.push { cls := .type "tuple_iterator", data := .fields #[.ref l, .int 0 0] } } →
      (s₂.heap.IsTupleIter s.heap.objs.size l 0 ∧ s₂.heap.IsTuple l (intItems xs)) → (∀ b ∈ [s.heap.objs.size, l], b < s₂.heap.objs.size) → l ≠ s.heap.objs.size → Q (.ref s.heap.objs.size) s₂) :
    wpAny (model prog w) A (pyIter (.ref l)) Q E s := by
  have hlt : l < s.heap.objs.size := by obtain ⟨_, e, _⟩ := hl; exact Heap.lt_size e
  refine wpAny_pyIter_tuple hl (h _ rfl ⟨⟨_, Heap.get?_push_size _ rfl, rfl, rfl⟩, hl.push _⟩ (fun b hb => ?_) (Nat.ne_of_lt hlt))
  show b < (s.heap.push _).objs.size
  rw [Heap.size_push]
  rcases List.mem_cons.mp hb with rfl | hb
  · exact Nat.lt_succ_self _
  · rcases List.mem_cons.mp hb with rfl | hb
    · exact Nat.lt_succ_of_lt hlt
    · cases hb
theorem old_keptT {h' : Heap} (hk : ∀ b o, b ∉ [s.heap.objs.size] → (s.heap.push { cls := .type "tuple_iterator", data := .fields #[.ref l, .int 0 0] }).get? b = some o → h'.get? b = some o) :
    ∀ b o, s.heap.get? b = some o → h'.get? b = some o := fun b o e => by
  refine hk b o (fun hm => ?_) (Heap.get?_push_of_some _ e)
  rcases List.mem_cons.mp hm with e1 | hm
  · exact absurd (e1 ▸ Heap.lt_size e) (Nat.lt_irrefl _)
  · cases hm
theorem max_intTup {Q : Value → Shared → Prop} (hh : A.handled = none) (hl : s.heap.IsTuple l (intItems xs)) (hne : 0 < xs.size)
    (h : ∀ v h' tk, (intItems xs)[argBest (fun i j => decide (numAt xs i > numAt xs j)) (xs.size - 1)]? = some v → (∀ b o, s.heap.get? b = some o → h'.get? b = some o) → Q v { s with heap := h', toks := tk }) :
    wpAny (model prog w) A (call (.builtin "max") [.ref l]) Q E s := by
  refine call_max_walk (iter_intTup hl fun s₂ e st hfp hlI => ?_)
  subst e
  refine ⟨_, _, _, _, _, _, _, rfl, Walks.tuple (A := A.in1) hh _ l hlI (intItems xs), st, hfp, by simpa [intItems] using hne, CmpOf.ints_gt (numAt xs) (fun _ _ => intItems_at), fun v h' tk hP hk => ?_⟩
  exact h v h' tk (by simpa [intItems] using hP) (old_keptT hk)
theorem min_intTup {Q : Value → Shared → Prop} (hh : A.handled = none) (hl : s.heap.IsTuple l (intItems xs)) (hne : 0 < xs.size)
    (h : ∀ v h' tk, (intItems xs)[argBest (fun i j => decide (numAt xs i < numAt xs j)) (xs.size - 1)]? = some v → (∀ b o, s.heap.get? b = some o → h'.get? b = some o) → Q v { s with heap := h', toks := tk }) :
    wpAny (model prog w) A (call (.builtin "min") [.ref l]) Q E s := by
  refine call_min_walk (iter_intTup hl fun s₂ e st hfp hlI => ?_)
  subst e
  refine ⟨_, _, _, _, _, _, _, rfl, Walks.tuple (A := A.in1) hh _ l hlI (intItems xs), st, hfp, by simpa [intItems] using hne, CmpOf.ints_lt (numAt xs) (fun _ _ => intItems_at), fun v h' tk hP hk => ?_⟩
  exact h v h' tk (by simpa [intItems] using hP) (old_keptT hk)
theorem sum_intTup {Q : Value → Shared → Prop} (hh : A.handled = none) (hl : s.heap.IsTuple l (intItems xs))
    (h : ∀ h' tk t', (∀ b o, s.heap.get? b = some o → h'.get? b = some o) → Q (.int (preSum (numAt xs) xs.size) t') { s with heap := h', toks := tk }) :
    wpAny (model prog w) A (call (.builtin "sum") [.ref l]) Q E s := by
  refine call_sum_walkG (iter_intTup hl fun s₂ e st hfp hlI => ?_)
  subst e
  refine ⟨_, _, _, _, _, _, numAt xs, rfl, Walks.tuple (A := A.in1) hh _ l hlI (intItems xs), st, hfp, (fun _ _ => intItems_at), fun h' tk t' hk => ?_⟩
  have := h h' tk t' (old_keptT hk)
  simpa [intItems] using this
end
section
variable {prog : Program} {w : World} {A : Around} {E : Value → Shared → Prop} {s : Shared} {l : Addr} {its : List Value} {ns : List Int} {Q : Value → Shared → Prop}
theorem sum_rawT (hh : A.handled = none) (hl : s.heap.IsTuple l its.toArray) (hi : IntsAre its ns)
    (h : ∀ h' tk t', (∀ b o, s.heap.get? b = some o → h'.get? b = some o) → Q (.int ns.sum t') { s with heap := h', toks := tk }) : wpAny (model prog w) A (call (.builtin "sum") [.ref l]) Q E s := by
  obtain ⟨xs, e⟩ := hi.allInts.items
  have hn : numsOf (intItems xs).toList = ns := by rw [← e]; exact hi.numsOf
  rw [nums_intItems] at hn
  rw [e] at hl
  refine sum_intTup hh hl fun h' tk t' hk => ?_
  have := h h' tk t' hk
  rw [preSum_eq, List.take_of_length_le (by simp), hn]; exact this
theorem max_rawT (hh : A.handled = none) (hl : s.heap.IsTuple l its.toArray) (hi : IntsAre its ns) (hne : 0 < ns.length)
    (h : ∀ h' tk M t', (∀ b o, s.heap.get? b = some o → h'.get? b = some o) → M ∈ ns → (∀ a, a ∈ ns → a ≤ M) → Q (.int M t') { s with heap := h', toks := tk }) : wpAny (model prog w) A (call (.builtin "max") [.ref l]) Q E s := by
  obtain ⟨xs, e⟩ := hi.allInts.items
  have hn : numsOf (intItems xs).toList = ns := by rw [← e]; exact hi.numsOf
  rw [nums_intItems] at hn
  subst hn
  rw [e] at hl
  have hsz : 0 < xs.size := by simpa using hne
  refine max_intTup hh hl hsz fun v h' tk hv hk => ?_
  obtain ⟨t, rfl⟩ := intItems_at hv
  obtain ⟨h1, h2⟩ := argBest_gt (numAt xs) (xs.size - 1)
  refine h h' tk _ t hk ?_ fun a ha => ?_
  · rw [numAt_eq]; exact PySem.getD_mem (by rw [List.length_map, Array.length_toList]; omega)
  · obtain ⟨j, hj, rfl⟩ := mem_getD ha
    rw [List.length_map, Array.length_toList] at hj
    rw [← numAt_eq]; exact h2 j (by omega)
theorem min_rawT (hh : A.handled = none) (hl : s.heap.IsTuple l its.toArray) (hi : IntsAre its ns) (hne : 0 < ns.length)
    (h : ∀ h' tk M t', (∀ b o, s.heap.get? b = some o → h'.get? b = some o) → M ∈ ns → (∀ a, a ∈ ns → M ≤ a) → Q (.int M t') { s with heap := h', toks := tk }) : wpAny (model prog w) A (call (.builtin "min") [.ref l]) Q E s := by
  obtain ⟨xs, e⟩ := hi.allInts.items
  have hn : numsOf (intItems xs).toList = ns := by rw [← e]; exact hi.numsOf
  rw [nums_intItems] at hn
  subst hn
  rw [e] at hl
  have hsz : 0 < xs.size := by simpa using hne
  refine min_intTup hh hl hsz fun v h' tk hv hk => ?_
  obtain ⟨t, rfl⟩ := intItems_at hv
  obtain ⟨h1, h2⟩ := argBest_lt (numAt xs) (xs.size - 1)
  refine h h' tk _ t hk ?_ fun a ha => ?_
  · rw [numAt_eq]; exact PySem.getD_mem (by rw [List.length_map, Array.length_toList]; omega)
  · obtain ⟨j, hj, rfl⟩ := mem_getD ha
    rw [List.length_map, Array.length_toList] at hj
    rw [← numAt_eq]; exact h2 j (by omega)
end
section
variable {X : Cx} (K : PySem.W.Frag)
def rSumT (K : PySem.W.Frag) : List V → Hp → VK → Prop := fun vs H Q => ∃ (a : Addr) (ns : List Int), vs = [V.ref a] ∧ SqT K H a (ns.map V.int) ∧ Q (.int ns.sum) H
def rMinT (K : PySem.W.Frag) : List V → Hp → VK → Prop := fun vs H Q => ∃ (a : Addr) (ns : List Int), vs = [V.ref a] ∧ SqT K H a (ns.map V.int) ∧ 0 < ns.length ∧ ∀ m, m ∈ ns → (∀ y, y ∈ ns → m ≤ y) → Q (.int m) H
def rMaxT (K : PySem.W.Frag) : List V → Hp → VK → Prop := fun vs H Q => ∃ (a : Addr) (ns : List Int), vs = [V.ref a] ∧ SqT K H a (ns.map V.int) ∧ 0 < ns.length ∧ ∀ m, m ∈ ns → (∀ y, y ∈ ns → y ≤ m) → Q (.int m) H
theorem ksumT (hc : X.calm = true := by rfl) (h : X.K = K := by rfl) : CallR X (.builtin "sum") (rSumT K) := by
  subst h
  intro pins s σ H vs us Q I r h
  obtain ⟨a, ns, rfl, hs, q⟩ := h
  obtain ⟨its, rv, hl, _⟩ := I.tuple hs
  rw [Vals.ref1 r]
  exact sum_rawT (I.ok.hd hc) hl rv.ints fun h' tk t' hk => ⟨.int _, H, I.kept hk, ⟨_, rfl⟩, q⟩
theorem kmaxT (hc : X.calm = true := by rfl) (h : X.K = K := by rfl) : CallR X (.builtin "max") (rMaxT K) := by
  subst h
  intro pins s σ H vs us Q I r h
  obtain ⟨a, ns, rfl, hs, hne, q⟩ := h
  obtain ⟨its, rv, hl, _⟩ := I.tuple hs
  rw [Vals.ref1 r]
  exact max_rawT (I.ok.hd hc) hl rv.ints hne fun h' tk m t' hk h1 h2 => ⟨.int _, H, I.kept hk, ⟨_, rfl⟩, q m h1 h2⟩
theorem kminT (hc : X.calm = true := by rfl) (h : X.K = K := by rfl) : CallR X (.builtin "min") (rMinT K) := by
  subst h
  intro pins s σ H vs us Q I r h
  obtain ⟨a, ns, rfl, hs, hne, q⟩ := h
  obtain ⟨its, rv, hl, _⟩ := I.tuple hs
  rw [Vals.ref1 r]
  exact min_rawT (I.ok.hd hc) hl rv.ints hne fun h' tk m t' hk h1 h2 => ⟨.int _, H, I.kept hk, ⟨_, rfl⟩, q m h1 h2⟩
end
section
variable {K : PySem.W.Frag} {H : Hp} {Q : VK} {a b : Addr} {ns ms : List Int}
theorem r_sumT (h : SqT K H a (ns.map V.int)) (q : Q (.int ns.sum) H) : rSumT K [.ref a] H Q := ⟨a, ns, rfl, h, q⟩
theorem r_minT (h : SqT K H a (ns.map V.int)) (n0 : 0 < ns.length) (q : ∀ m, IsMin m ns → Q (.int m) H) : rMinT K [.ref a] H Q := ⟨a, ns, rfl, h, n0, fun m h1 h2 => q m ⟨h1, h2⟩⟩
theorem r_maxT (h : SqT K H a (ns.map V.int)) (n0 : 0 < ns.length) (q : ∀ m, IsMax m ns → Q (.int m) H) : rMaxT K [.ref a] H Q := ⟨a, ns, rfl, h, n0, fun m h1 h2 => q m ⟨h1, h2⟩⟩
theorem r_slTfrom {i : Int} (h : SqT K H a (ns.map V.int)) (hi : 0 ≤ i) (q : ∀ p H', Same H H' → SqT K H' p ((ns.drop i.toNat).map V.int) → Q (.ref p) H') : rSlA K (.ref a) (some i) none H Q :=
  r_slT h fun p H' s f => q p H' s (by rw [cut_from' _ hi, ← List.map_drop] at f; exact f)
theorem r_slTto {i : Int} (h : SqT K H a (ns.map V.int)) (hi : 0 ≤ i) (q : ∀ p H', Same H H' → SqT K H' p ((ns.take i.toNat).map V.int) → Q (.ref p) H') : rSlA K (.ref a) none (some i) H Q :=
  r_slT h fun p H' s f => q p H' s (by rw [cut_to' _ hi, ← List.map_take] at f; exact f)
theorem r_catTI (h : SqT K H a (ns.map V.int)) (h' : SqT K H b (ms.map V.int)) (s : ns.length + ms.length ≤ 16000000) (q : ∀ p H', Same H H' → SqT K H' p ((ns ++ ms).map V.int) → Q (.ref p) H') : rCatA K (.ref a) (.ref b) H Q :=
  r_catT h h' (by rw [List.length_map, List.length_map, PySem.sizeLine_eq]; omega) fun p H' s f => q p H' s (by rw [List.map_append]; exact f)
theorem eqvT_ints (ns ms : List Int) : PyData.eqv (.tuple (ns.map PyData.int)) (.tuple (ms.map PyData.int)) = decide (ns = ms) := by
  rw [show PyData.eqv (.tuple (ns.map PyData.int)) (.tuple (ms.map PyData.int)) = PyData.eqvAll (ns.map PyData.int) (ms.map PyData.int) by rw [PyData.eqv], eqv_ints]
theorem r_eqIntsTD (h1 : SqT K H a (ns.map V.int)) (h2 : SqT K H b (ms.map V.int)) (q : Q (.bl (decide (ns = ms))) H) : rEqD K (.ref a) (.ref b) H Q :=
  r_eqD (dpIntsT h1) (dpIntsT h2) (shaped_intsT ns) (shaped_intsT ms) (by rw [eqvT_ints]; exact q)
end
/-! ### values read back -/
section
variable {K : PySem.W.Frag} {H : Hp}
theorem DpAll.ints : ∀ {xs : List V} {ns : List Int}, DpAll K H xs (ns.map PyData.int) → xs = ns.map V.int
  | _, [], h => by cases h; rfl
  | _, n :: ns, h => by
    cases h with
    | cons a t => cases a; rw [DpAll.ints t]; rfl
theorem Dp.nfd {v : V} {f : Int → Int} {P : Int} (h : Dp K H v (nfD f P)) : ∃ a g, v = .ref a ∧ SqT K H a [.int P, .int (f 0), .ref g] ∧ SqT K H g ((diffs f P.toNat).map V.int) := by
  cases h with
  | tup ha r =>
    cases r with
    | cons r1 r => cases r1; cases r with
      | cons r2 r => cases r2; cases r with
        | cons r3 r => cases r; cases r3 with
          | tup hg r => rw [DpAll.ints r] at hg; exact ⟨_, _, rfl, ha, hg⟩
theorem Dp.fr2 {v : V} {t1 b1 t2 b2 : Int} (h : Dp K H v (.tuple [.tuple [.int t1, .int b1], .tuple [.int t2, .int b2]])) :
    ∃ a l g, v = .ref a ∧ SqT K H a [.ref l, .ref g] ∧ SqT K H l [.int t1, .int b1] ∧ SqT K H g [.int t2, .int b2] := by
  cases h with
  | tup ha r =>
    cases r with
    | cons r1 r => cases r with
      | cons r2 r => cases r; cases r1 with
        | tup hl q1 => cases r2 with
          | tup hg q2 =>
            cases q1 with | cons a1 q1 => cases a1; cases q1 with | cons a2 q1 => cases a2; cases q1; cases q2 with | cons a3 q2 => cases a3; cases q2 with | cons a4 q2 => cases a4; cases q2; exact ⟨_, _, _, rfl, ha, hl, hg⟩
end
end My
namespace My
open PySem L2
/-! ### fractions of one value -/
theorem fr_spec {t b : Int} (hb : 0 < b) : ∃ g, 0 < g ∧ g = gcdI (absI t) b ∧ t = g * frTop t b ∧ b = g * frBot t b ∧ 0 < frBot t b := by
  have hg := gcdI_pos (a := absI t) hb
  have e2 := gcdI_dvd_right (a := absI t) (b := b) (by omega)
  have e1 := gcdI_dvd_left (b := b) (absI_nn t)
  refine ⟨gcdI (absI t) b, by omega, rfl, ?_, e2, ?_⟩
  · have hd : gcdI (absI t) b ∣ t := by
      have h0 : gcdI (absI t) b ∣ absI t := ⟨_, e1⟩
      unfold absI at h0 ⊢
      split at h0
      · rename_i hneg; rw [if_pos hneg]; exact (Int.dvd_neg).mp h0
      · rename_i hneg; rw [if_neg hneg]; exact h0
    exact (Int.mul_ediv_cancel' hd).symm
  · show 0 < b / gcdI (absI t) b
    rcases Int.lt_or_le 0 (b / gcdI (absI t) b) with h | h
    · exact h
    · exfalso
      have := Int.mul_le_mul_of_nonneg_left h (show 0 ≤ gcdI (absI t) b by omega)
      rw [← e2] at this; omega
theorem fr_cross {t b : Int} (hb : 0 < b) : frTop t b * b = t * frBot t b := by
  obtain ⟨g, hg, _, e1, e2, _⟩ := fr_spec (t := t) hb
  have : ∀ u v : Int, t = g * u → b = g * v → u * b = t * v := by
    intro u v h1 h2
    rw [h1, h2, ← Int.mul_assoc, Int.mul_comm u g]
  exact this _ _ e1 e2
theorem absI_nat (t : Int) : (absI t).toNat = t.natAbs := by unfold absI; split <;> omega
theorem fr_eq {t b t' b' : Int} (hb : 0 < b) (hb' : 0 < b') (e : t * b' = t' * b) : frTop t b = frTop t' b' ∧ frBot t b = frBot t' b' := by
  obtain ⟨g, hg, eg, e1, e2, e3⟩ := fr_spec (t := t) hb
  obtain ⟨g', hg', eg', e1', e2', e3'⟩ := fr_spec (t := t') hb'
  have hgg : g * b' = g' * b := by
    rw [eg, eg']
    unfold gcdI
    rw [absI_nat, absI_nat]
    have h1 : t.natAbs * b'.toNat = t'.natAbs * b.toNat := by
      have := congrArg Int.natAbs e
      rw [Int.natAbs_mul, Int.natAbs_mul] at this
      rwa [show b'.natAbs = b'.toNat by omega, show b.natAbs = b.toNat by omega] at this
    have h2 : t.natAbs.gcd b.toNat * b'.toNat = t'.natAbs.gcd b'.toNat * b.toNat := by
      rw [← Nat.gcd_mul_right, ← Nat.gcd_mul_right, h1, Nat.mul_comm b.toNat b'.toNat]
    have h3 := congrArg (fun n : Nat => (n : Int)) h2
    simp only [Int.natCast_mul] at h3
    rwa [show ((b'.toNat : Nat) : Int) = b' by omega, show ((b.toNat : Nat) : Int) = b by omega] at h3
  have hbot : frBot t b = frBot t' b' := by
    have h : (g * g') * frBot t' b' = (g * g') * frBot t b := by
      rw [Int.mul_assoc, ← e2', hgg, Int.mul_comm g g', Int.mul_assoc, ← e2]
    exact (Int.eq_of_mul_eq_mul_left (by have := Int.mul_pos hg hg'; omega) h).symm
  refine ⟨?_, hbot⟩
  have h : (g * b') * frTop t b = (g * b') * frTop t' b' := by
    have a1 : (g * b') * frTop t b = t * b' := by rw [Int.mul_right_comm, ← e1]
    have a2 : (g * b') * frTop t' b' = t' * b := by rw [hgg, Int.mul_right_comm, ← e1']
    rw [a1, a2, e]
  exact Int.eq_of_mul_eq_mul_left (by have := Int.mul_pos hg hb'; omega) h
/-! ### values a whole number of periods on -/
theorem QP.at {f : Int → Int} {P R : Int} (h : QP f P R) (x : Int) : f x = f (x % P) + x / P * R := by
  have := h.mul (x / P) (x % P)
  rw [Int.mul_comm (x / P) P, Int.emod_add_mul_ediv] at this
  exact this
theorem QP.top {f : Int → Int} {P R : Int} (h : QP f P R) (hP : 0 < P) (x : Int) : f x * P - x * R ∈ scaled f P R := by
  unfold scaled
  have h1 := Int.emod_nonneg x (show P ≠ 0 by omega)
  have h2 := Int.emod_lt_of_pos x hP
  refine List.mem_map.mpr ⟨(x % P).toNat, List.mem_range.mpr (by omega), ?_⟩
  rw [show (((x % P).toNat : Nat) : Int) = x % P by omega]
  have e := h.at x
  have e2 : x = x % P + x / P * P := by rw [Int.mul_comm (x / P) P, Int.emod_add_mul_ediv]
  generalize x / P = q at *
  generalize x % P = r at *
  rw [e, e2, Int.add_mul, Int.add_mul, Int.mul_comm P (f r), Int.mul_comm R r, Int.mul_assoc q R P, Int.mul_assoc q P R, Int.mul_comm R P]
  omega
theorem diffs_nn {p : Pipe} (h : p.pos) (n : Nat) : ∀ y ∈ diffs p.val n, 0 ≤ y := by
  intro y hy
  unfold diffs at hy
  obtain ⟨x, _, rfl⟩ := List.mem_map.mp hy
  have := Pipe.mono h (show (x : Int) ≤ (x : Int) + 1 by omega)
  omega
theorem spread_cross {t u b c hi lo P : Int} (h1 : t * P = hi * b) (h2 : u * P = lo * c) : (t * c - u * b) * P = (hi - lo) * (b * c) := by
  rw [Int.sub_mul, Int.mul_right_comm, h1, Int.mul_right_comm u b P, h2, Int.sub_mul, Int.mul_assoc hi b c, Int.mul_assoc lo c b, Int.mul_comm c b]
end My
namespace My
theorem ediv_big {x P B : Int} (h : -B ≤ x ∧ x ≤ B) (hP : 0 < P) : -B ≤ x / P ∧ x / P ≤ B := by
  have hB : 0 ≤ B := by omega
  have := Int.mul_le_mul_of_nonneg_left (show 1 ≤ P by omega) hB
  constructor
  · exact Int.le_ediv_of_mul_le hP (by rw [Int.neg_mul]; omega)
  · exact Int.ediv_le_of_le_mul hP (by omega)
end My

namespace My
open PySem L2
/-! ### more comprehensions: a range with a condition, an enumerated list -/
section
variable {K : PySem.W.Frag} {σ : St} {H : Hp} {Q : VK} {te : TE}
theorem ll_rangeF {i0 : Nat} {lo : Int} {n : Nat} {tt : TT} (f : Nat → V) (c : Nat → Bool) (hsz : n < 16777216) (hw : ∀ x, wipe ((wipe σ [i0]).set i0 (some x)) [i0] = wipe σ [i0])
    (ht : ∀ (i : Nat) (H' : Hp) (Q' : Bool → Hp → Prop), i < n → Same H H' → (∀ H4, Same H' H4 → Q' (c i) H4) → tt ((wipe σ [i0]).set i0 (some (.int (lo + i)))) H' Q')
    (hs : ∀ (i : Nat) (H' : Hp) (Q' : VK), i < n → Same H H' → (∀ H4, Same H' H4 → Q' (f i) H4) → te ((wipe σ [i0]).set i0 (some (.int (lo + i)))) H' Q')
    (hd : ∀ D H', Same H H' → H' D = some (.lst (((List.range n).filter c).map f)) → H D = none → Q (.ref D) H') : LLoop (Itr lo n) (gName i0) tt te [i0] σ H Q := by
  refine fun D hD => lc_range (lo := lo) (n := n) (fun i H' => Same H H' ∧ H' D = some (.lst (((List.range i).filter c).map f))) ⟨Same.up (Same.refl _) hD, upd_same⟩ (fun i H' hi h => ?_) (fun H' h => ?_)
  · obtain ⟨h1, h2⟩ := h
    refine ⟨hw _, ?_⟩
    refine ht i H' _ hi h1 fun H3 h3 => ?_
    have e : (List.range (i + 1)).filter c = (List.range i).filter c ++ if c i = true then [i] else [] := by
      rw [List.range_succ, List.filter_append]
      by_cases hc : c i = true
      · simp [hc]
      · simp [hc]
    by_cases hc : c i = true
    · rw [if_pos hc]
      refine hs i H3 _ hi (h1.trans h3) fun H4 h4 => ⟨_, h4 _ _ (h3 _ _ h2), ?_, Same.upN ((h1.trans h3).trans h4) hD, ?_⟩
      · have := List.length_filter_le c (List.range i)
        rw [List.length_range] at this
        rw [List.length_map, PySem.sizeLine_eq]; omega
      · rw [upd_same, e, if_pos hc, List.map_append]; rfl
    · rw [if_neg hc]
      exact ⟨h1.trans h3, by rw [e, if_neg hc, List.append_nil]; exact h3 _ _ h2⟩
  · obtain ⟨h1, h2⟩ := h
    exact hd D H' h1 h2 hD
theorem ll_enum {α : Type} {i0 j0 : Nat} {a : Addr} {xs : List V} {zs : List α} (f : α → V) (hx : SqL K H a xs) (hlen : xs.length = zs.length) (hsz : zs.length < 16777216)
    (hw : ∀ x y, wipe (((wipe σ [i0, j0]).set i0 (some x)).set j0 (some y)) [i0, j0] = wipe σ [i0, j0])
    (hs : ∀ (i : Nat) (x : V) (z : α) (H' : Hp) (Q' : VK), xs[i]? = some x → zs[i]? = some z → Same H H' → (∀ H4, Same H' H4 → Q' (f z) H4) → te (((wipe σ [i0, j0]).set i0 (some (.int (i : Nat)))).set j0 (some x)) H' Q')
    (hd : ∀ D H', Same H H' → H' D = some (.lst (zs.map f)) → H D = none → Q (.ref D) H') : LLoop (Ite K a) (gTup K 2 (gCons (gName i0) (gCons (gName j0) gNil))) tYes te [i0, j0] σ H Q := by
  intro D hD
  refine ⟨fun i m H' => m = zs.length - i ∧ i ≤ zs.length ∧ Same H H' ∧ H' D = some (.lst ((zs.take i).map f)), ⟨_, rfl, Nat.zero_le _, Same.up (Same.refl _) hD, upd_same⟩, ?_⟩
  rintro i m H' ⟨rfl, hi, hS, hl⟩
  by_cases hlt : i < zs.length
  · have ex : xs[i]? = some xs[i] := List.getElem?_eq_getElem (by omega)
    have ez : zs[i]? = some zs[i] := List.getElem?_eq_getElem hlt
    refine .inr ⟨⟨xs, _, SqL.same hS hx, ex⟩, fun H3 => Same H H3 ∧ H3 D = some (.lst ((zs.take (i + 1)).map f)), fun H3 h => ⟨zs.length - (i + 1), by omega, rfl, hlt, h.1, h.2⟩, ?_⟩
    rintro v H2 ⟨T, x, rfl, hT, rfl, fx⟩
    have e1 : x = xs[i] := Option.some.inj ((fx _ (SqL.same hS hx)).symm.trans ex)
    subst e1
    refine ⟨T, _, rfl, SqT.new, rfl, _, _, rfl, _, _, rfl, rfl, hw _ _, ?_⟩
    show te _ _ _
    refine hs i _ _ _ _ ex ez (Same.up hS hT) fun H4 h4 => ⟨_, h4 _ _ (HAt.hu hT hl), ?_, Same.upN ((Same.up hS hT).trans h4) hD, ?_⟩
    · rw [List.length_map, List.length_take, PySem.sizeLine_eq]; omega
    · rw [upd_same, List.take_add_one, ez, List.map_append]; rfl
  · have e : i = zs.length := by omega
    subst e
    refine .inl ⟨⟨xs, SqL.same hS hx, by omega⟩, hd D H' hS ?_ hD⟩
    rw [hl, List.take_length]
theorem r_eqNilI {a b : Addr} {ns : List Int} (h : SqL K H a (ns.map V.int)) (h' : SqL K H b []) (q : Q (.bl (decide (ns = []))) H) : rEqD K (.ref a) (.ref b) H Q :=
  r_eqIntsD (ms := []) h h' q
end
/-! ### one step for a pipeline -/
def asD (P R lo hi : Int) : PyData := if hi ≤ lo + P - 1 then .tuple [.str "scale", .int R, .int P, .int hi] else .none
theorem shaped_asD (P R lo hi : Int) : SeqAt.shaped (asD P R lo hi) = true := by
  unfold asD
  split
  · unfold SeqAt.shaped
    simp [PyData.canLay0, PyData.canLayAll0, PyData.depth, PyData.depthAll]
    decide +kernel
  · rfl
/-- an offset is right at each argument when it lies between the extremes -/
theorem off_iff {f : Int → Int} {P R lo hi o : Int} (hP : 0 < P) (hmn : IsMin lo (scaled f P R)) (hmx : IsMax hi (scaled f P R)) :
    (List.range P.toNat).filter (fun x : Nat => decide ((R * (x : Int) + o) / P ≠ f x)) = [] ↔ hi ≤ o ∧ o ≤ lo + P - 1 := by
  have step : ∀ x : Nat, (R * (x : Int) + o) / P = f x ↔ P * f x - R * x ≤ o ∧ o ≤ P * f x - R * x + P - 1 := by
    intro x
    constructor
    · intro h
      have h1 := Int.mul_ediv_add_emod (R * (x : Int) + o) P
      have h2 := Int.emod_nonneg (R * (x : Int) + o) (show P ≠ 0 by omega)
      have h3 := Int.emod_lt_of_pos (R * (x : Int) + o) hP
      rw [h] at h1
      omega
    · rintro ⟨h1, h2⟩
      have : R * (x : Int) + o = P * f x + (R * x + o - P * f x) := by omega
      rw [this, Int.add_comm, Int.add_mul_ediv_left _ _ (by omega), Int.ediv_eq_zero_of_lt (by omega) (by omega), Int.zero_add]
  rw [List.filter_eq_nil_iff]
  constructor
  · intro h
    have get : ∀ y ∈ scaled f P R, y ≤ o ∧ o ≤ y + P - 1 := by
      intro y hy
      obtain ⟨x, hx, rfl⟩ := List.mem_map.mp hy
      have := h x hx
      simp only [ne_eq, decide_not, Bool.not_eq_true', decide_eq_false_iff_not, Classical.not_not] at this
      exact (step x).mp this
    exact ⟨(get _ hmx.1).1, (get _ hmn.1).2⟩
  · rintro ⟨h1, h2⟩ x hx
    have hm : P * f x - R * x ∈ scaled f P R := List.mem_map.mpr ⟨x, hx, rfl⟩
    have a1 := hmx.2 _ hm
    have a2 := hmn.2 _ hm
    have := (step x).mpr ⟨by omega, by omega⟩
    simp [this]
theorem IsMin.ex : ∀ {l : List Int}, 0 < l.length → ∃ m, IsMin m l
  | [x], _ => ⟨x, List.mem_singleton.mpr rfl, fun y hy => by rw [List.mem_singleton.mp hy]; exact Int.le_refl _⟩
  | x :: y :: l, _ => by
    obtain ⟨m, h1, h2⟩ := IsMin.ex (l := y :: l) (by simp)
    rcases Int.lt_or_le x m with h | h
    · refine ⟨x, List.mem_cons_self, fun z hz => ?_⟩
      rcases List.mem_cons.mp hz with rfl | hz
      · exact Int.le_refl _
      · have := h2 z hz; omega
    · refine ⟨m, List.mem_cons_of_mem _ h1, fun z hz => ?_⟩
      rcases List.mem_cons.mp hz with rfl | hz
      · exact h
      · exact h2 z hz
theorem IsMax.ex : ∀ {l : List Int}, 0 < l.length → ∃ m, IsMax m l
  | [x], _ => ⟨x, List.mem_singleton.mpr rfl, fun y hy => by rw [List.mem_singleton.mp hy]; exact Int.le_refl _⟩
  | x :: y :: l, _ => by
    obtain ⟨m, h1, h2⟩ := IsMax.ex (l := y :: l) (by simp)
    rcases Int.lt_or_le m x with h | h
    · refine ⟨x, List.mem_cons_self, fun z hz => ?_⟩
      rcases List.mem_cons.mp hz with rfl | hz
      · exact Int.le_refl _
      · have := h2 z hz; omega
    · refine ⟨m, List.mem_cons_of_mem _ h1, fun z hz => ?_⟩
      rcases List.mem_cons.mp hz with rfl | hz
      · exact h
      · exact h2 z hz
theorem qb {b b' : Bool} {H : Hp} {Q : Bool → Hp → Prop} (e : b' = b) (q : Q b' H) : Q b H := by rw [← e]; exact q
theorem r_isN {A : Prop} (h : A) : V.non = V.non ∧ A := ⟨rfl, h⟩
theorem s_par3 {i j l : Nat} {ta : TA} {D : Ends} {σ : St} {H : Hp} (h : ta σ H fun vs H1 => ∃ u v w, vs = [u, v, w] ∧ D.nx (((σ.set i (some u)).set j (some v)).set l (some w)) H1) : tPar3 i j l ta D σ H := h
theorem s_par33 {u v w : V} {A : V → V → V → Prop} (h : A u v w) : ∃ u' v' w', [u, v, w] = [u', v', w'] ∧ A u' v' w' := ⟨u, v, w, rfl, h⟩
theorem dp_non {K : PySem.W.Frag} {H : Hp} {d : PyData} (h : Dp K H .non d) : d = .none := by cases h; rfl
theorem dp_none {K : PySem.W.Frag} {H : Hp} {v : V} (h : Dp K H v .none) : v = .non := by cases h; rfl
theorem divs_ok {a b c c' : Int} (ha : 0 ≤ a ∧ a < 10) (hb : 0 ≤ b ∧ b < 10) (hc : 0 ≤ c ∧ c < 1000) (hc' : 0 ≤ c' ∧ c' < 1000) : Pipe.ok [.sc 1 (1 + a) c, .sc 1 (1 + b) c'] := by
  have := Int.mul_le_mul (show 1 + a ≤ 10 by omega) (show 1 + b ≤ 10 by omega) (by omega) (by omega)
  refine ⟨by simp, ?_, ?_⟩
  · intro s hs
    simp only [List.mem_cons, List.not_mem_nil, or_false] at hs
    rcases hs with rfl | rfl <;> simp [Step.ok] <;> omega
  · simp [Pipe.prod, Step.per]; omega
theorem fl_pipesC {K : PySem.W.Frag} {a : Addr} {xs : List V} {g : TG} {tb : TS} {D : Ends} {σ : St} {H : Hp} (C : Pipe → Prop) (hS : SqT K H a xs) (hall : ∀ x ∈ xs, ∃ p, PipeAt K H x p ∧ C p) (Pv : St → Hp → Prop) (h0 : Pv σ H)
    (hs : ∀ x p σ' H', Same H H' → PipeAt K H' x p → C p → Pv σ' H' → g x σ' H' fun σ2 H2 => tb { D with nx := fun σ3 H3 => Same H H3 ∧ Pv σ3 H3, ct := fun σ3 H3 => Same H H3 ∧ Pv σ3 H3, bk := D.nx } σ2 H2)
    (hd : ∀ σ' H', Pv σ' H' → D.nx σ' H') : FLoop (Itt K a) g tb D σ H := by
  refine fl_tup (xs := xs) (fun _ σ' H' => Same H H' ∧ Pv σ' H') ⟨Same.refl _, h0⟩ (fun _ _ _ _ h => SqT.hs h.1 hS) (fun i x σ' H' hx h => ?_) (fun σ' H' h => hd _ _ h.2)
  obtain ⟨p, hp, hc⟩ := hall x (List.mem_of_getElem? hx)
  exact hs x p σ' H' h.1 (PipeAt.hs h.1 hp) hc h.2
/-! ### how large a value gets -/
theorem Step.bd {s : Step} (h : s.ok) {x b : Int} (hb : 0 ≤ b) (hx : -(1000000000 * b) ≤ x ∧ x ≤ 1000000000 * b) :
    -(1000000000 * (120 * b + 1)) ≤ s.val x ∧ s.val x ≤ 1000000000 * (120 * b + 1) := by
  cases s with
  | sc k m c =>
    obtain ⟨⟨k1, k2⟩, ⟨m1, m2⟩, c1, c2⟩ := h
    have a1 : k * x ≤ 120 * (1000000000 * b) := by
      have := Int.mul_le_mul_of_nonneg_left hx.2 (show 0 ≤ k by omega)
      have := Int.mul_le_mul_of_nonneg_right k2 (show 0 ≤ 1000000000 * b by omega)
      omega
    have a2 : -(120 * (1000000000 * b)) ≤ k * x := by
      have := Int.mul_le_mul_of_nonneg_left hx.1 (show 0 ≤ k by omega)
      have := Int.mul_le_mul_of_nonneg_right k2 (show 0 ≤ 1000000000 * b by omega)
      rw [Int.mul_neg] at *
      omega
    exact ediv_big (x := k * x + c) (P := m) (B := 1000000000 * (120 * b + 1)) ⟨by omega, by omega⟩ (by omega)
  | ev m =>
    have := ediv_big (x := x) (P := m) (B := 1000000000 * b) ⟨hx.1, hx.2⟩ (by have := h.1; omega)
    simp only [Step.val]
    split
    · omega
    · split <;> omega
def gn : Nat → Int → Int
  | 0, b => b
  | n + 1, b => gn n (120 * b + 1)
theorem gn_ge : ∀ (n : Nat) {b : Int}, 0 ≤ b → b ≤ gn n b
  | 0, _, _ => Int.le_refl _
  | n + 1, b, h => by
    have := gn_ge n (b := 120 * b + 1) (by omega)
    show b ≤ gn n (120 * b + 1)
    omega
theorem Pipe.bd : ∀ (p : Pipe) (n : Nat) {x b : Int}, (∀ s ∈ p, s.ok) → p.length ≤ n → 0 ≤ b → -(1000000000 * b) ≤ x ∧ x ≤ 1000000000 * b → -(1000000000 * gn n b) ≤ p.val x ∧ p.val x ≤ 1000000000 * gn n b
  | [], n, x, b, _, _, hb, hx => by
    have := gn_ge n hb
    show -(1000000000 * gn n b) ≤ x ∧ x ≤ 1000000000 * gn n b
    omega
  | s :: p, 0, _, _, _, hl, _, _ => by simp at hl
  | s :: p, n + 1, x, b, ho, hl, hb, hx => by
    have h1 := Step.bd (ho s List.mem_cons_self) hb hx
    exact Pipe.bd p n (x := s.val x) (b := 120 * b + 1) (fun t ht => ho t (List.mem_cons_of_mem _ ht)) (by simpa using hl) (by omega) h1
theorem val0_bd {p : Pipe} (ho : ∀ s ∈ p, s.ok) (hl : p.length ≤ 4) {P : Int} (h1 : 0 < P) (h2 : P ≤ 120) : -300000000000000000 ≤ P * p.val 0 ∧ P * p.val 0 ≤ 300000000000000000 := by
  have := Pipe.bd p 4 (x := 0) (b := 0) ho hl (by omega) (by omega)
  rw [show gn 4 0 = 1742521 from rfl] at this
  have a1 := Int.mul_le_mul_of_nonneg_left this.1 (show 0 ≤ P by omega)
  have a2 := Int.mul_le_mul_of_nonneg_left this.2 (show 0 ≤ P by omega)
  omega
end My

/-! ### t[::-1] of a tuple -/
namespace My
open PySem L2 HT PyProof.Rows
section
variable {prog : Program} {w : World} {A : Around} {E : Value → Shared → Prop} {s : Shared}
theorem sliceApplied_rev {sl : Addr} {vl vu vs : Value} {n : Nat} {Q : Int × Int × Nat → Shared → Prop} (hs : s.heap.IsSliceOf sl vl vu vs) (pl : IsPart vl none) (pu : IsPart vu none) (ps : IsPart vs (some (-1)))
    (h : Q ((n : Int) - 1, -1, n) s) : wpAny (model prog w) A (Builtin.Slice.sliceApplied (.ref sl) (pure (n : Int))) Q E s := by
  obtain ⟨os, hos, hcs, hds⟩ := id hs
  unfold Builtin.Slice.sliceApplied Builtin.Slice.sliceFields
  refine wpAny_bind (wpAny_bind (wpAny_field hos hds (x := vl) rfl (wpAny_bind (wpAny_field hos hds (x := vu) rfl (wpAny_bind (wpAny_field hos hds (x := vs) rfl (wpAny_pure ?_)))))))
  refine wpAny_bind (slicePart_ ps ?_)
  show wpAny _ _ (if ((-1 : Int) == 0) = true then _ else _) _ _ s
  rw [if_neg (by decide)]
  refine wpAny_bind (slicePart_ pl (wpAny_bind (slicePart_ pu (wpAny_bind (wpAny_pure ?_)))))
  show wpAny _ _ (match Builtin.Slice.sliceAdjust none none (-1) (n : Int) with | (lo, hi) => pure (lo, (-1 : Int), Builtin.Slice.slicePlaces lo hi (-1))) _ _ s
  have e1 : Builtin.Slice.sliceAdjust none none (-1) (n : Int) = ((n : Int) - 1, -1) := by
    unfold Builtin.Slice.sliceAdjust
    simp
  rw [e1]
  show wpAny _ _ (pure ((n : Int) - 1, (-1 : Int), Builtin.Slice.slicePlaces ((n : Int) - 1) (-1) (-1))) _ _ s
  have e2 : Builtin.Slice.slicePlaces ((n : Int) - 1) (-1) (-1) = n := by
    unfold Builtin.Slice.slicePlaces
    simp
    try omega
  rw [e2]
  exact wpAny_pure h
theorem fm_congr {f g : Nat → Option Value} : ∀ {l : List Nat}, (∀ m ∈ l, f m = g m) → l.filterMap f = l.filterMap g
  | [], _ => rfl
  | m :: l, h => by rw [List.filterMap_cons, List.filterMap_cons, h m List.mem_cons_self, fm_congr fun x hx => h x (List.mem_cons_of_mem _ hx)]
theorem fm_all : ∀ ys : List Value, (List.range ys.length).filterMap (fun m => ys[m]?) = ys
  | [] => rfl
  | y :: ys => by
    rw [List.length_cons, List.range_succ_eq_map, List.filterMap_cons]
    simp only [List.getElem?_cons_zero]
    rw [List.filterMap_map]
    congr 1
    exact fm_all ys
theorem pick_rev (xs : Array Value) : ((List.range xs.size).filterMap fun (m : Nat) => xs[(((xs.size : Int) - 1) + (m : Int) * (-1)).toNat]?).toArray = xs.toList.reverse.toArray := by
  congr 1
  have e : (List.range xs.size).filterMap (fun (m : Nat) => xs[(((xs.size : Int) - 1) + (m : Int) * (-1)).toNat]?) = (List.range xs.size).filterMap (fun m => xs.toList.reverse[m]?) := by
    apply fm_congr
    intro m hm
    have hm := List.mem_range.mp hm
    rw [List.getElem?_reverse (by simpa using hm)]
    rw [show (((xs.size : Int) - 1) + (m : Int) * (-1)).toNat = xs.toList.length - 1 - m by rw [Array.length_toList]; omega]
    simp
  rw [e]
  have := fm_all xs.toList.reverse
  rwa [List.length_reverse, Array.length_toList] at this
theorem getItem_tuple_rev {t sl : Addr} {items : Array Value} {vl vu vs : Value} {Q : Value → Shared → Prop} (ht : IsTup s.heap t items) (hs : s.heap.IsSliceOf sl vl vu vs) (pl : IsPart vl none) (pu : IsPart vu none) (ps : IsPart vs (some (-1)))
    (h : Q (.ref s.heap.objs.size) { s with heap := s.heap.push { cls := .type "tuple", data := .seq items.toList.reverse.toArray } })
    (hsz : items.size ≤ sizeLine) : wpAny (model prog w) A (getItem (.ref t) (.ref sl)) Q E s := by
  have htake : sizeOk (.seq items.toList.reverse.toArray) := by
    show items.toList.reverse.toArray.size ≤ sizeLine
    rw [List.size_toArray, List.length_reverse, Array.length_toList]
    omega
  obtain ⟨os, hos, hcs, hds⟩ := id hs
  have hTs : s.TypeIs (.ref sl) "slice" := ⟨os, hos, hcs⟩
  unfold getItem
  try with_reducible refine wpAny_holding ?_
  first | refine wpAny_bind (wpAny_pure ?_) | skip
  refine wpAny_bind (wpAny_sequenceKey ht.typeIs (by decide) ?_)
  refine wpAny_bind (wpAny_callSpecial?_slot (name := Str.ofString "__getitem__") ht.typeIs PyProof.Rows.slot_tuple_getitem
    (wpAny_call_entry PyProof.Rows.slot_tuple_getitem ht.typeIs entry_tuple_getitem ?_ (args_tuple_getitem _ _)))
  show wpAny _ _ (Builtin.Tuple.tupleItemsOf (.ref t) >>= _) _ _ s
  refine wpAny_bind (tupleItemsOf_ ht ?_)
  refine wpAny_bind (wpAny_typeOf hTs ?_)
  rw [if_pos (by decide)]
  refine wpAny_bind (sliceApplied_rev hs pl pu ps ?_)
  have hno : ¬ ((((items.size : Int) - 1) == 0 && (-1 : Int) == 1 && items.size == items.size) = true) := by
    intro q
    rw [Bool.and_eq_true, Bool.and_eq_true] at q
    exact absurd (eq_of_beq q.1.2) (by decide)
  show wpAny _ _ (if (((items.size : Int) - 1) == 0 && (-1 : Int) == 1 && items.size == items.size) = true then _ else _) _ _ s
  rw [if_neg hno, pick_rev]
  first
    | exact wpAny_bind (m := Builtin.Tuple.tupleExact _) (wpAny_newObj_type (wpAny_pure ⟨_, rfl, wpAny_pure h⟩) htake)
    | exact wpAny_bind (m := Builtin.Tuple.tupleExact _) (wpAny_newObj_type (wpAny_bind (wpAny_pure (wpAny_pure ⟨_, rfl, wpAny_pure h⟩))) htake)
    | exact wpAny_bind (wpAny_bind (m := Builtin.Tuple.tupleExact _) (wpAny_newObj_type (wpAny_pure (wpAny_pure ⟨_, rfl, wpAny_pure h⟩)) htake))
    | exact wpAny_bind (wpAny_bind (m := Builtin.Tuple.tupleExact _) (wpAny_newObj_type (wpAny_pure ⟨_, rfl, wpAny_pure h⟩) htake))
end
section
variable {X : Cx} (K : PySem.W.Frag)
def tRevT (K : PySem.W.Frag) (te : TE) : TE := fun σ H Q => te σ H fun x H1 => ∃ a xs, x = .ref a ∧ SqT K H1 a xs ∧ ∀ p, H1 p = none → Q (.ref p) (upd H1 p (.tup xs.reverse))
theorem kpe_revT {e : Expr} {te : TE} {k : Nat} {p1 p2 p3 pos : Pos} (he : PE X e te) (h : X.K = K := by rfl) : PE X (.Subscript e (.Slice none none (some (.UnaryOp .USub (.Constant (.int 1) k p1) p2)) p3) pos) (tRevT K te) := by
  subst h
  refine ⟨fun pins s σ H Q I h => ?_⟩
  refine Subscript_ (thn (he.run pins s σ H _ I h) fun v s1 ⟨x, H1, I1, r1, q1⟩ => ?_)
  obtain ⟨a, xs, ex, hx, q⟩ := q1
  subst ex
  cases r1
  have hst : PO X (some (.UnaryOp .USub (.Constant (.int 1) k p1) p2)) (tPart (tUn (rU fun i => .int (-i)) (tC (.int 1)))) := po_some (pe_un un_neg pe_int)
  refine wpAny_Slice (thn (po_none.run pins s1 σ H1 (fun o H2 => o = none ∧ H2 = H1) I1 ⟨rfl, rfl⟩) fun vl s2 ⟨l, H2, I2, pl, el, e2⟩ => ?_)
  subst el e2
  refine thn (po_none.run pins s2 σ H2 (fun o H3 => o = none ∧ H3 = H2) I2 ⟨rfl, rfl⟩) fun vu s3 ⟨u, H3, I3, pu, eu, e3⟩ => ?_
  subst eu e3
  refine thn (hst.run pins s3 σ H3 (fun o H4 => o = some (-1) ∧ H4 = H3) I3 ⟨1, rfl, -1, rfl, rfl, rfl⟩) fun vs s4 ⟨o, H4, I4, ps, eo, e4⟩ => ?_
  subst eo e4
  have I5 : Inv X pins σ H4 { s4 with heap := s4.heap.push { cls := .type "slice", data := .fields #[vl, vu, vs] } } := I4.kept (t' := s4.toks) fun b ob q => Heap.get?_push_of_some _ q
  obtain ⟨its, r, ht, hz⟩ := I5.tuple hx
  have hlen := r.length
  show wpAny (model X.prog X.w) X.A (subscriptTail e (.Slice none none (some (.UnaryOp .USub (.Constant (.int 1) k p1) p2)) p3) (.ref a) (.ref s4.heap.objs.size)) (EP X pins σ Q) X.xe { s4 with heap := s4.heap.push { cls := .type "slice", data := .fields #[vl, vu, vs] } }
  refine tail_any (ops := [.ref a, .ref s4.heap.objs.size]) ht.typeIs (PyProof.Rows.slot_tuple_getitem.lookup) ?_ (by with_unfolding_all rfl)
  refine getItem_tuple_rev ht (Heap.IsSliceOf.new _ vl vu vs) pl pu ps ?_ (by rw [List.size_toArray]; omega)
  refine ⟨.ref _, _, I5.laid (t' := s4.toks) (o := .tup xs.reverse) (fun b ob q => Heap.get?_push_of_some _ q) (Nat.le_refl _) ?_, rfl, q _ (I5.hok.fresh (Nat.le_refl _))⟩
  exact ⟨by rw [List.length_reverse]; exact hz, _, r.reverse, IsTup.new _ _⟩
end
section
variable {K : PySem.W.Frag} {H : Hp} {Q : VK} {σ : L2.St} {te : TE}
theorem Paired.rev {α β : Type} {F : α → β → Prop} : ∀ {xs : List α} {ys : List β}, Paired F xs ys → Paired F xs.reverse ys.reverse
  | _, _, .nil => .nil
  | _, _, .cons r t => by rw [List.reverse_cons, List.reverse_cons]; exact Paired.snoc (Paired.rev t) r
def nRevT (K : PySem.W.Frag) (x : V) (H1 : Hp) (Q : VK) : Prop := ∃ a xs, x = .ref a ∧ SqT K H1 a xs ∧ ∀ p, H1 p = none → Q (.ref p) (upd H1 p (.tup xs.reverse))
theorem r_revT (h : te σ H fun x H1 => nRevT K x H1 Q) : tRevT K te σ H Q := h
theorem r_revP {x : V} {p : Pipe} (h : PipeAt K H x p) (q : ∀ c H', Same H H' → PipeAt K H' (.ref c) p.reverse → Q (.ref c) H') : nRevT K x H Q := by
  obtain ⟨a, xs, rfl, hS, hx⟩ := h
  exact ⟨a, xs, rfl, hS, fun c hc => q c _ (Same.up (Same.refl _) hc) ⟨c, _, rfl, SqT.new, My.Paired.rev (Paired.mapP hx fun _ _ z => StepAt.hu hc z)⟩⟩
end
end My

/-! ### the least argument whose value is at least y -/
namespace My
open PySem L2
def Step.first : Step → Int → Int
  | .sc k m c, y => (m * y + k - 1 - c) / k
  | .ev m, y => if m % 2 = 1 then m * y - m / 2 else m * y - m / 2 + y % 2
def Pipe.back (r : Pipe) (y : Int) : Int := r.foldl (fun y s => s.first y) y
def Pipe.first (p : Pipe) (y : Int) : Int := Pipe.back p.reverse y
def Pipe.last (p : Pipe) (y : Int) : Int := p.first (y + 1) - 1
theorem Pipe.back_take {r : Pipe} {i : Nat} {s : Step} {y : Int} (h : r[i]? = some s) : Pipe.back (r.take (i + 1)) y = s.first (Pipe.back (r.take i) y) := by
  unfold Pipe.back
  rw [List.take_add_one, h, List.foldl_append]; rfl
theorem Step.gal {s : Step} (h : s.pos) {x y : Int} : y ≤ s.val x ↔ s.first y ≤ x := by
  cases s with
  | sc k m c =>
    obtain ⟨⟨k1, k2⟩, m1, m2⟩ := h
    show y ≤ (k * x + c) / m ↔ (m * y + k - 1 - c) / k ≤ x
    have e : ((m * y + k - 1 - c) / k ≤ x) ↔ (m * y + k - 1 - c) < (x + 1) * k := by rw [← Int.lt_add_one_iff, Int.ediv_lt_iff_lt_mul (show 0 < k by omega)]
    rw [e, Int.le_ediv_iff_mul_le (show 0 < m by omega), Int.add_mul, Int.mul_comm y m, Int.mul_comm x k]
    omega
  | ev m =>
    obtain ⟨m1, m2⟩ := h
    have e := Int.mul_ediv_add_emod x m
    have r0 := Int.emod_nonneg x (show m ≠ 0 by omega)
    have r1 := Int.emod_lt_of_pos x (show 0 < m by omega)
    obtain ⟨j, hj⟩ : ∃ j, y = x / m + j := ⟨y - x / m, by omega⟩
    have hy : m * y = m * (x / m) + m * j := by rw [hj, Int.mul_add]
    have f1 : Step.val (.ev m) x = if 2 * (x % m) = m then x / m + x / m % 2 else x / m + (if m < 2 * (x % m) then 1 else 0) := rfl
    have f2 : Step.first (.ev m) y = if m % 2 = 1 then m * y - m / 2 else m * y - m / 2 + y % 2 := rfl
    rw [f1, f2]
    generalize x / m = q at *
    generalize x % m = r at *
    have jm : j ≤ 0 → m * j ≤ 0 := fun hh => by have := Int.mul_le_mul_of_nonneg_left hh (show 0 ≤ m by omega); omega
    have jM : 2 ≤ j → 2 * m ≤ m * j := fun hh => by have := Int.mul_le_mul_of_nonneg_left hh (show 0 ≤ m by omega); omega
    have j1 : j = 1 → m * j = m := fun hh => by rw [hh, Int.mul_one]
    generalize m * y = my at *
    generalize m * q = mq at *
    generalize m * j = mj at *
    have hodd := Int.emod_two_eq m
    have hyo := Int.emod_two_eq y
    have hqo := Int.emod_two_eq q
    rcases Int.lt_or_le j 1 with h1 | h1
    · have := jm (by omega)
      split <;> (try split) <;> (try split) <;> constructor <;> intro _ <;> omega
    · rcases Int.lt_or_le 1 j with h2 | h2
      · have := jM (by omega)
        split <;> (try split) <;> (try split) <;> constructor <;> intro _ <;> omega
      · have := j1 (by omega)
        split <;> (try split) <;> (try split) <;> constructor <;> intro _ <;> omega
theorem Pipe.first_cons (s : Step) (p : Pipe) (y : Int) : Pipe.first (s :: p) y = s.first (Pipe.first p y) := by
  unfold Pipe.first Pipe.back
  rw [List.reverse_cons, List.foldl_append]; rfl
theorem Pipe.gal : ∀ {p : Pipe}, p.pos → ∀ {x y : Int}, y ≤ p.val x ↔ p.first y ≤ x
  | [], _, _, _ => Iff.rfl
  | s :: p, h, x, y => by
    rw [Pipe.first_cons, ← Step.gal (h s List.mem_cons_self), ← Pipe.gal (p := p) (fun t ht => h t (List.mem_cons_of_mem _ ht))]
    exact Iff.rfl
theorem Pipe.first_mono {p : Pipe} (h : p.pos) {y y' : Int} (hy : y ≤ y') : p.first y ≤ p.first y' := by
  have h1 : y' ≤ p.val (p.first y') := (Pipe.gal h).mpr (Int.le_refl _)
  exact (Pipe.gal h).mp (by omega)
def ivD (p : Pipe) (y : Int) : PyData := if p.first y ≤ p.last y then .tuple [.int (p.first y), .int (p.last y)] else .none
theorem shaped_ivD (p : Pipe) (y : Int) : SeqAt.shaped (ivD p y) = true := by
  unfold ivD
  split
  · unfold SeqAt.shaped
    simp [PyData.canLay0, PyData.canLayAll0, PyData.depth, PyData.depthAll]
  · rfl
theorem one_le_pow120 : ∀ n : Nat, (1 : Int) ≤ 120 ^ n
  | 0 => by simp
  | n + 1 => by have := one_le_pow120 n; rw [Int.pow_succ]; omega
theorem Pipe.rises_le : ∀ {p : Pipe} (n : Nat), p.pos → p.length ≤ n → p.rises ≤ 120 ^ n
  | [], n, _, _ => by
    have := one_le_pow120 n
    simpa [Pipe.rises] using this
  | s :: p, 0, _, hl => by simp at hl
  | s :: p, n + 1, h, hl => by
    rw [Pipe.rises_cons, Int.pow_succ, Int.mul_comm]
    have h1 := Step.rise_pos (h s List.mem_cons_self)
    have h2 := Pipe.rises_le (p := p) n (fun t ht => h t (List.mem_cons_of_mem _ ht)) (by simpa using hl)
    have h3 := Pipe.rises_pos (p := p) (fun t ht => h t (List.mem_cons_of_mem _ ht))
    exact Int.mul_le_mul h2 h1.2 (by omega) (by omega)
theorem Least.rise_le {p : Pipe} (h : p.pos) {P R : Int} (hl : Least p.val P R) (h6 : p.length ≤ 6) : R ≤ 2985984000000 := by
  have h1 := (hl.dvd (Pipe.qp h)).2
  have h2 := (hl.dvd (Pipe.qp h)).1
  have h3 := Pipe.rises_le 6 h h6
  have h4 := (hl.bounds h).2
  have h5 := Pipe.rises_pos h
  have h6 : 1 ≤ p.prod / P := by
    rcases Int.lt_or_le 0 (p.prod / P) with h | h
    · omega
    · exfalso
      have := Int.mul_le_mul_of_nonneg_left h (show 0 ≤ R by omega)
      omega
  have := Int.mul_le_mul_of_nonneg_left h6 (show 0 ≤ R by omega)
  rw [show (120 : Int) ^ 6 = 2985984000000 from rfl] at h3
  omega
theorem first_shift {p : Pipe} (h : p.pos) {P R : Int} (hq : QP p.val P R) (y t : Int) : p.first (y + t * R) = p.first y + t * P := by
  have hm := hq.mul t
  apply Int.le_antisymm
  · apply (Pipe.gal h).mp
    rw [hm (p.first y)]
    have : y ≤ p.val (p.first y) := (Pipe.gal h).mpr (Int.le_refl _)
    omega
  · have e : p.first (y + t * R) = (p.first (y + t * R) - t * P) + t * P := by omega
    have h1 : y + t * R ≤ p.val (p.first (y + t * R)) := (Pipe.gal h).mpr (Int.le_refl _)
    rw [e, hm] at h1
    have := (Pipe.gal h (y := y) (x := p.first (y + t * R) - t * P)).mp (by omega)
    omega
theorem iv_non {K : PySem.W.Frag} {H : Hp} {v : V} {p : Pipe} {y : Int} (h : Dp K H v (ivD p y)) : v = .non ↔ p.last y < p.first y := by
  unfold ivD at h
  constructor
  · intro e
    rw [e] at h
    rcases Int.lt_or_le (p.last y) (p.first y) with h1 | h1
    · exact h1
    · rw [if_pos h1] at h; cases h
  · intro e
    rw [if_neg (by omega)] at h
    exact dp_none h
theorem r_pickI {K : PySem.W.Frag} {H : Hp} {Q : VK} {p : Addr} {a b r : Int} (h : SqL K H p [.int a, .int b]) (h0 : 0 ≤ r) (h1 : r < 2) (q : ∀ z, z = a ∨ z = b → Q (.int z) H) : rIxL K (.ref p) (.int r) H Q := by
  rcases (show r = 0 ∨ r = 1 by omega) with rfl | rfl
  · exact r_ixL (i := 0) h rfl (q a (.inl rfl))
  · exact r_ixL (i := 1) h rfl (q b (.inr rfl))
end My

/-! ### the order of a search, the first hit in it -/
namespace My
open PySem L2
def ordL : Nat → List Int
  | 0 => [0]
  | i + 1 => ordL i ++ [0 - (1 + (i : Int)), 1 + (i : Int)]
theorem ordL_len : ∀ n : Nat, (ordL n).length = 2 * n + 1
  | 0 => rfl
  | n + 1 => by simp [ordL, ordL_len n]; omega
theorem ordL_mem : ∀ (n : Nat) (x : Int), -(n : Int) ≤ x → x ≤ n → x ∈ ordL n
  | 0, x, h1, h2 => by have : x = 0 := by omega
                       subst this; exact List.mem_singleton.mpr rfl
  | n + 1, x, h1, h2 => by
    by_cases h : -(n : Int) ≤ x ∧ x ≤ n
    · exact List.mem_append.mpr (.inl (ordL_mem n x h.1 h.2))
    · refine List.mem_append.mpr (.inr ?_)
      simp only [List.mem_cons, List.not_mem_nil, or_false]
      omega
theorem ordL_pre : ∀ {n m : Nat}, n ≤ m → ∃ t, ordL m = ordL n ++ t := by
  intro n m h
  induction m with
  | zero => exact ⟨[], by rw [show n = 0 by omega]; rfl⟩
  | succ m ih =>
    rcases Nat.lt_or_ge m n with h1 | h1
    · exact ⟨[], by rw [show n = m + 1 by omega, List.append_nil]⟩
    · obtain ⟨t, ht⟩ := ih h1
      exact ⟨t ++ [0 - (1 + (m : Int)), 1 + (m : Int)], by rw [← List.append_assoc, ← ht]; rfl⟩
def hitL (f : Int → Int) (xs : List Int) : Option Int := xs.find? fun x => decide (f x = f (x + 1))
theorem hit_take {f : Int → Int} {xs : List Int} {i : Nat} {x : Int} (h : xs[i]? = some x) (hn : hitL f (xs.take i) = none) : hitL f (xs.take (i + 1)) = if f x = f (x + 1) then some x else none := by
  unfold hitL at *
  rw [List.take_add_one, h, List.find?_append, hn]
  by_cases hx : f x = f (x + 1)
  · simp [hx]
  · simp [hx]
theorem hit_take_some {f : Int → Int} {xs : List Int} {i : Nat} {x z : Int} (h : xs[i]? = some x) (hn : hitL f (xs.take i) = some z) : hitL f (xs.take (i + 1)) = some z := by
  unfold hitL at *
  rw [List.take_add_one, h, List.find?_append, hn]
  rfl
theorem hit_at {f : Int → Int} {xs : List Int} {i : Nat} {x : Int} (h : xs[i]? = some x) (hn : hitL f (xs.take i) = none) (hx : f x = f (x + 1)) : hitL f xs = some x := by
  have h1 := hit_take h hn
  rw [if_pos hx] at h1
  have : xs = xs.take (i + 1) ++ xs.drop (i + 1) := (List.take_append_drop _ _).symm
  unfold hitL at *
  rw [this, List.find?_append, h1]; rfl
theorem hit_eq {f : Int → Int} {P R : Int} {n m : Nat} (hq : QP f P R) (hP : 0 < P) (hn : (n : Int) = P) (h : n ≤ m) : hitL f (ordL m) = hitL f (ordL n) := by
  obtain ⟨t, ht⟩ := ordL_pre h
  rw [ht]
  unfold hitL
  rw [List.find?_append]
  cases hh : (ordL n).find? fun x => decide (f x = f (x + 1)) with
  | some z => rfl
  | none =>
    rw [Option.none_or, List.find?_eq_none]
    intro x _
    rw [List.find?_eq_none] at hh
    have h0 := Int.emod_nonneg x (show P ≠ 0 by omega)
    have h1 := Int.emod_lt_of_pos x hP
    have := hh (x % P) (ordL_mem n _ (by omega) (by omega))
    simp only [decide_eq_true_eq] at this ⊢
    intro hx
    apply this
    have e1 := hq.mul (x / P) (x % P)
    have e2 := hq.mul (x / P) (x % P + 1)
    rw [Int.add_right_comm, Int.mul_comm (x / P) P, Int.emod_add_mul_ediv] at e2
    rw [Int.mul_comm (x / P) P, Int.emod_add_mul_ediv] at e1
    omega
def optV : Option Int → V
  | some x => .int x
  | none => .non
def optD : Option Int → PyData
  | some x => .int x
  | none => .none
theorem optV_dp {K : PySem.W.Frag} {H : Hp} (o : Option Int) : Dp K H (optV o) (optD o) := by
  cases o with
  | none => exact .non
  | some x => exact .int x
theorem shaped_optD (o : Option Int) : SeqAt.shaped (optD o) = true := by
  cases o <;> rfl
theorem r_pickI3 {K : PySem.W.Frag} {H : Hp} {Q : VK} {p : Addr} {a b c r : Int} (h : SqL K H p [.int a, .int b, .int c]) (h0 : 0 ≤ r) (h1 : r < 3) (q : ∀ z, Q (.int z) H) : rIxL K (.ref p) (.int r) H Q := by
  rcases (show r = 0 ∨ r = 1 ∨ r = 2 by omega) with rfl | rfl | rfl
  · exact r_ixL (i := 0) h rfl (q a)
  · exact r_ixL (i := 1) h rfl (q b)
  · exact r_ixL (i := 2) h rfl (q c)
theorem diff_at {f : Int → Int} {P R : Int} (hq : QP f P R) (x : Int) : f (x % P + 1) - f (x % P) = 0 ↔ f x = f (x + 1) := by
  have e1 := hq.mul (x / P) (x % P)
  have e2 := hq.mul (x / P) (x % P + 1)
  rw [Int.add_right_comm, Int.mul_comm (x / P) P, Int.emod_add_mul_ediv] at e2
  rw [Int.mul_comm (x / P) P, Int.emod_add_mul_ediv] at e1
  omega
theorem optV_non {o : Option Int} (h : optV o = .non) : o = none := by
  cases o with
  | none => rfl
  | some x => cases h
theorem optV_some {o : Option Int} (h : ¬ optV o = .non) : ∃ x, o = some x := by
  cases o with
  | none => exact absurd rfl h
  | some x => exact ⟨x, rfl⟩
end My

/-! ### counting by residues -/
namespace My
open PySem L2
def resC (P r s e : Int) : Int := (e - r) / P - (s - 1 - r) / P
theorem ediv_pred {u P : Int} (hP : 0 < P) : u / P - (u - 1) / P = if u % P = 0 then 1 else 0 := by
  have e := Int.mul_ediv_add_emod u P
  have t0 := Int.emod_nonneg u (show P ≠ 0 by omega)
  have t1 := Int.emod_lt_of_pos u hP
  by_cases h : u % P = 0
  · rw [if_pos h]
    have := ((Int.ediv_emod_unique (a := u - 1) (b := P) (r := P - 1) (q := u / P - 1) hP).mpr ⟨by rw [Int.mul_sub, Int.mul_one]; omega, by omega, by omega⟩).1
    omega
  · rw [if_neg h]
    have := ((Int.ediv_emod_unique (a := u - 1) (b := P) (r := u % P - 1) (q := u / P) hP).mpr ⟨by omega, by omega, by omega⟩).1
    omega
theorem emod_sub_iff {x r P : Int} (hP : 0 < P) (h0 : 0 ≤ r) (h1 : r < P) : (x - r) % P = 0 ↔ x % P = r := by
  constructor
  · intro h
    have e := Int.mul_ediv_add_emod (x - r) P
    rw [h] at e
    have : x = r + P * ((x - r) / P) := by omega
    rw [this, Int.add_mul_emod_self_left, Int.emod_eq_of_lt h0 h1]
  · intro h
    have e := Int.mul_ediv_add_emod x P
    have : x - r = P * (x / P) := by omega
    rw [this, Int.mul_emod_right]
theorem resC_succ {P r s e : Int} (hP : 0 < P) (h0 : 0 ≤ r) (h1 : r < P) : resC P r s (e + 1) = resC P r s e + if (e + 1) % P = r then 1 else 0 := by
  unfold resC
  have h := ediv_pred (u := e + 1 - r) hP
  rw [show e + 1 - r - 1 = e - r by omega] at h
  have hi := emod_sub_iff (x := e + 1) hP h0 h1
  by_cases hc : (e + 1) % P = r
  · rw [if_pos hc]; rw [if_pos (hi.mpr hc)] at h; omega
  · rw [if_neg hc]; rw [if_neg (fun q => hc (hi.mp q))] at h; omega
def sumR : Nat → (Int → Int) → Int
  | 0, _ => 0
  | i + 1, g => sumR i g + g i
theorem sumR_congr {g h : Int → Int} : ∀ {n : Nat}, (∀ i : Nat, i < n → g i = h i) → sumR n g = sumR n h
  | 0, _ => rfl
  | n + 1, e => by rw [sumR, sumR, sumR_congr fun i hi => e i (by omega), e n (by omega)]
theorem sumR_add (g h : Int → Int) : ∀ n : Nat, sumR n (fun r => g r + h r) = sumR n g + sumR n h
  | 0 => rfl
  | n + 1 => by rw [sumR, sumR, sumR, sumR_add g h n]; omega
theorem sumR_zero : ∀ n : Nat, sumR n (fun _ => 0) = 0
  | 0 => rfl
  | n + 1 => by rw [sumR, sumR_zero n]; rfl
theorem sumR_one (z : Int) (c : Int) : ∀ n : Nat, 0 ≤ z → sumR n (fun r => if z = r then c else 0) = if z < n then c else 0
  | 0, h => by rw [sumR, if_neg (by omega)]
  | n + 1, h => by
    rw [sumR, sumR_one z c n h]
    by_cases h1 : z < n
    · rw [if_pos h1, if_neg (by omega), if_pos (by omega)]; omega
    · rw [if_neg h1]
      by_cases h2 : z = n
      · rw [if_pos h2, if_pos (by omega)]; omega
      · rw [if_neg h2, if_neg (by omega)]; rfl
def cntW (good : Int → Bool) (s : Int) : Nat → Int
  | 0 => 0
  | n + 1 => cntW good s n + if good (s + n) = true then 1 else 0
theorem cnt_res {good : Int → Bool} {P : Int} (hP : 0 < P) (hg : ∀ x, good (x % P) = good x) (s : Int) : ∀ n : Nat, sumR P.toNat (fun r => if good r = true then resC P r s (s + n - 1) else 0) = cntW good s n
  | 0 => by
    have e : sumR P.toNat (fun r => if good r = true then resC P r s (s + ((0 : Nat) : Int) - 1) else 0) = sumR P.toNat (fun _ => 0) := by
      apply sumR_congr
      intro i hi
      split
      · unfold resC
        rw [show s + ((0 : Nat) : Int) - 1 - (i : Int) = s - 1 - i by omega]; omega
      · rfl
    rw [e, sumR_zero, cntW]
  | n + 1 => by
    rw [cntW, ← cnt_res hP hg s n]
    have z0 := Int.emod_nonneg (s + n) (show P ≠ 0 by omega)
    have z1 := Int.emod_lt_of_pos (s + n) hP
    have e2 : ∀ c : Int, c = sumR P.toNat (fun r => if (s + n) % P = r then c else 0) := by
      intro c
      rw [sumR_one _ _ _ z0, if_pos (by omega)]
    rw [e2 (if good (s + n) = true then (1 : Int) else 0), ← sumR_add]
    apply sumR_congr
    intro i hi
    have hr := resC_succ (P := P) (r := i) (s := s) (e := s + n - 1) hP (by omega) (by omega)
    rw [show s + (n : Int) - 1 + 1 = s + n by omega] at hr
    rw [show s + ((n + 1 : Nat) : Int) - 1 = s + n by omega, hr]
    by_cases h1 : (s + n) % P = (i : Int)
    · rw [if_pos h1, if_pos h1, ← h1, hg (s + n)]
      by_cases h2 : good (s + n) = true
      · rw [if_pos h2, if_pos h2, if_pos h2]
      · rw [if_neg h2, if_neg h2, if_neg h2]; rfl
    · rw [if_neg h1, if_neg h1]
      split <;> omega
theorem cntW_add (good : Int → Bool) (s : Int) (n : Nat) : ∀ m : Nat, cntW good s (n + m) = cntW good s n + cntW good (s + n) m
  | 0 => by rw [Nat.add_zero, cntW]; omega
  | m + 1 => by
    rw [← Nat.add_assoc, cntW, cntW, cntW_add good s n m, show s + ((n + m : Nat) : Int) = s + n + m by omega]; omega
theorem cntW_congr {good good' : Int → Bool} {s : Int} : ∀ {n : Nat}, (∀ i : Nat, i < n → good (s + i) = good' (s + i)) → cntW good s n = cntW good' s n
  | 0, _ => rfl
  | n + 1, e => by rw [cntW, cntW, cntW_congr fun i hi => e i (by omega), e n (by omega)]
theorem cntW_zero {good : Int → Bool} {s : Int} : ∀ {n : Nat}, (∀ i : Nat, i < n → good (s + i) = false) → cntW good s n = 0
  | 0, _ => rfl
  | n + 1, e => by rw [cntW, cntW_zero fun i hi => e i (by omega), e n (by omega)]; rfl
theorem cntW_nn (good : Int → Bool) (s : Int) : ∀ n : Nat, 0 ≤ cntW good s n ∧ cntW good s n ≤ n
  | 0 => ⟨by simp [cntW], by simp [cntW]⟩
  | n + 1 => by have := cntW_nn good s n; rw [cntW]; split <;> omega
theorem cntW_shift (good good' : Int → Bool) (s d : Int) (h : ∀ x, good' (x + d) = good x) : ∀ n : Nat, cntW good' (s + d) n = cntW good s n
  | 0 => rfl
  | n + 1 => by rw [cntW, cntW, cntW_shift good good' s d h n, show s + d + (n : Int) = s + n + d by omega, h]
def jmp (p : Pipe) (x : Int) : Bool := decide (p.val x < p.val (x + 1))
def runs (p : Pipe) (x : Int) : Bool := decide (p.val (x - 1) < p.val x) && decide (p.val x = p.val (x + 1))
def att (p : Pipe) (y : Int) : Bool := decide (p.first y < p.first (y + 1))
def att2 (p : Pipe) (y : Int) : Bool := decide (p.first y + 1 < p.first (y + 1))
theorem in_block {p : Pipe} (h : p.pos) {y x : Int} (h1 : p.first y ≤ x) (h2 : x < p.first (y + 1)) : p.val x = y := by
  have a := (Pipe.gal h).mpr h1
  have b : ¬ (y + 1 ≤ p.val x) := fun q => by have := (Pipe.gal h).mp q; omega
  omega
theorem block_sum {p : Pipe} (hp : p.pos) (g at' : Int → Bool) (d : Int) (h : ∀ y, cntW g (p.first y + d) (p.first (y + 1) - p.first y).toNat = if at' y = true then 1 else 0) (lo : Int) :
    ∀ n : Nat, cntW g (p.first lo + d) (p.first (lo + n) - p.first lo).toNat = cntW at' lo n
  | 0 => by rw [show (p.first (lo + ((0 : Nat) : Int)) - p.first lo).toNat = 0 by rw [show lo + ((0 : Nat) : Int) = lo by omega]; omega]; rfl
  | n + 1 => by
    have m1 := Pipe.first_mono hp (show lo ≤ lo + n by omega)
    have m2 := Pipe.first_mono hp (show lo + n ≤ lo + n + 1 by omega)
    have e : (p.first (lo + ((n + 1 : Nat) : Int)) - p.first lo).toNat = (p.first (lo + n) - p.first lo).toNat + (p.first (lo + n + 1) - p.first (lo + n)).toNat := by
      rw [show lo + ((n + 1 : Nat) : Int) = lo + n + 1 by omega]; omega
    rw [e, cntW_add, block_sum hp g at' d h lo n, cntW, ← h (lo + n)]
    rw [show p.first lo + d + (((p.first (lo + n) - p.first lo).toNat : Nat) : Int) = p.first (lo + n) + d by omega]
theorem jmp_block {p : Pipe} (hp : p.pos) (y : Int) : cntW (jmp p) (p.first y + -1) (p.first (y + 1) - p.first y).toNat = if att p y = true then 1 else 0 := by
  have m := Pipe.first_mono hp (show y ≤ y + 1 by omega)
  unfold att
  by_cases h : p.first y < p.first (y + 1)
  · rw [if_pos (decide_eq_true h)]
    obtain ⟨k, hk⟩ : ∃ k : Nat, (p.first (y + 1) - p.first y).toNat = 1 + k := ⟨(p.first (y + 1) - p.first y).toNat - 1, by omega⟩
    rw [hk, cntW_add, cntW_zero (n := k)]
    · show (0 : Int) + (if jmp p (p.first y + -1 + ((0 : Nat) : Int)) = true then 1 else 0) + 0 = 1
      have h1 : p.val (p.first y + -1) < y := by
        rcases Int.lt_or_le (p.val (p.first y + -1)) y with q | q
        · exact q
        · have := (Pipe.gal hp).mp q; omega
      have h2 : p.val (p.first y) = y := in_block hp (Int.le_refl _) h
      rw [show p.first y + -1 + ((0 : Nat) : Int) = p.first y + -1 by omega, if_pos]
      · rfl
      · unfold jmp
        rw [show p.first y + -1 + 1 = p.first y by omega, h2]; exact decide_eq_true h1
    · intro i hi
      have h1 := in_block hp (y := y) (x := p.first y + i) (by omega) (by omega)
      have h2 := in_block hp (y := y) (x := p.first y + i + 1) (by omega) (by omega)
      unfold jmp
      rw [show p.first y + -1 + ((1 : Nat) : Int) + (i : Int) = p.first y + i by omega, h1, h2]
      exact decide_eq_false (by omega)
  · rw [if_neg (by simpa using h), show (p.first (y + 1) - p.first y).toNat = 0 by omega]; rfl
theorem runs_block {p : Pipe} (hp : p.pos) (y : Int) : cntW (runs p) (p.first y + 0) (p.first (y + 1) - p.first y).toNat = if att2 p y = true then 1 else 0 := by
  have m := Pipe.first_mono hp (show y ≤ y + 1 by omega)
  have g2 : y + 1 ≤ p.val (p.first (y + 1)) := (Pipe.gal hp).mpr (Int.le_refl _)
  unfold att2
  by_cases h : p.first y < p.first (y + 1)
  · obtain ⟨k, hk⟩ : ∃ k : Nat, (p.first (y + 1) - p.first y).toNat = 1 + k := ⟨(p.first (y + 1) - p.first y).toNat - 1, by omega⟩
    have h1 : p.val (p.first y - 1) < y := by
      rcases Int.lt_or_le (p.val (p.first y - 1)) y with q | q
      · exact q
      · have := (Pipe.gal hp).mp q; omega
    have h2 : p.val (p.first y) = y := in_block hp (Int.le_refl _) h
    rw [hk, cntW_add, cntW_zero (n := k)]
    · show (0 : Int) + (if runs p (p.first y + 0 + ((0 : Nat) : Int)) = true then 1 else 0) + 0 = _
      rw [show p.first y + 0 + ((0 : Nat) : Int) = p.first y by omega]
      unfold runs
      rw [h2, decide_eq_true h1, Bool.true_and]
      by_cases h3 : p.first y + 1 < p.first (y + 1)
      · have h4 := in_block hp (y := y) (x := p.first y + 1) (by omega) h3
        rw [h4, if_pos (decide_eq_true rfl), if_pos (decide_eq_true h3)]; rfl
      · have e : p.first y + 1 = p.first (y + 1) := by omega
        rw [e, if_neg, if_neg]
        · rfl
        · simp
        · simp; omega
    · intro i hi
      have h3 := in_block hp (y := y) (x := p.first y + i) (by omega) (by omega)
      have h4 := in_block hp (y := y) (x := p.first y + i + 1) (by omega) (by omega)
      unfold runs
      rw [show p.first y + 0 + ((1 : Nat) : Int) + (i : Int) = p.first y + i + 1 by omega, show p.first y + (i : Int) + 1 - 1 = p.first y + i by omega, h3, h4, decide_eq_false (by omega)]; rfl
  · rw [if_neg (by simp; omega), show (p.first (y + 1) - p.first y).toNat = 0 by omega]; rfl
/-- how many values of a range are met (rep: met more than once) -/
def cntV (p : Pipe) (rep : Bool) (lo hi : Int) : Int := cntW (if rep = true then att2 p else att p) lo (hi - lo + 1).toNat
def goodV (p : Pipe) (rep : Bool) : Int → Bool := if rep = true then runs p else jmp p
theorem cntV_eq {p : Pipe} (hp : p.pos) (rep : Bool) {lo hi : Int} (h : lo ≤ hi) :
    cntV p rep lo hi = if p.last hi < p.first lo then 0 else (if rep = true then 0 else 1) + cntW (goodV p rep) (p.first lo) (p.last hi - p.first lo).toNat := by
  have m := Pipe.first_mono hp (show lo ≤ hi + 1 by omega)
  have el : p.last hi = p.first (hi + 1) - 1 := rfl
  have en : lo + (((hi - lo + 1).toNat : Nat) : Int) = hi + 1 := by omega
  unfold cntV goodV
  cases rep with
  | false =>
    simp only [Bool.false_eq_true, if_false]
    have b := block_sum hp (jmp p) (att p) (-1) (jmp_block hp) lo (hi - lo + 1).toNat
    rw [en] at b
    rw [← b]
    by_cases hc : p.last hi < p.first lo
    · rw [if_pos hc, show (p.first (hi + 1) - p.first lo).toNat = 0 by omega]; rfl
    · rw [if_neg hc, show (p.first (hi + 1) - p.first lo).toNat = 1 + (p.last hi - p.first lo).toNat by omega, cntW_add]
      have h1 : p.val (p.first lo + -1) < lo := by
        rcases Int.lt_or_le (p.val (p.first lo + -1)) lo with q | q
        · exact q
        · have := (Pipe.gal hp).mp q; omega
      have h2 : lo ≤ p.val (p.first lo) := (Pipe.gal hp).mpr (Int.le_refl _)
      have e1 : cntW (jmp p) (p.first lo + -1) 1 = 1 := by
        show (0 : Int) + (if jmp p (p.first lo + -1 + ((0 : Nat) : Int)) = true then 1 else 0) = 1
        rw [show p.first lo + -1 + ((0 : Nat) : Int) = p.first lo + -1 by omega, if_pos]
        · rfl
        · unfold jmp
          rw [show p.first lo + -1 + 1 = p.first lo by omega]; exact decide_eq_true (by omega)
      rw [e1, show p.first lo + -1 + ((1 : Nat) : Int) = p.first lo by omega]
  | true =>
    simp only [if_true]
    have b := block_sum hp (runs p) (att2 p) 0 (runs_block hp) lo (hi - lo + 1).toNat
    rw [en, Int.add_zero] at b
    rw [← b]
    by_cases hc : p.last hi < p.first lo
    · rw [if_pos hc, show (p.first (hi + 1) - p.first lo).toNat = 0 by omega]; rfl
    · rw [if_neg hc, show (p.first (hi + 1) - p.first lo).toNat = (p.last hi - p.first lo).toNat + 1 by omega, cntW]
      have g2 : hi + 1 ≤ p.val (p.first (hi + 1)) := (Pipe.gal hp).mpr (Int.le_refl _)
      have h3 : p.val (p.last hi) < hi + 1 := by
        rcases Int.lt_or_le (p.val (p.last hi)) (hi + 1) with q | q
        · exact q
        · have := (Pipe.gal hp).mp q; omega
      rw [show p.first lo + (((p.last hi - p.first lo).toNat : Nat) : Int) = p.last hi by omega, if_neg]
      · omega
      · unfold runs
        rw [show p.last hi + 1 = p.first (hi + 1) by omega, decide_eq_false (p := p.val (p.last hi) = p.val (p.first (hi + 1))) (by omega), Bool.and_false]
        simp
theorem goodV_mod {p : Pipe} {P R : Int} (hq : QP p.val P R) (rep : Bool) (x : Int) : goodV p rep (x % P) = goodV p rep x := by
  have e0 := hq.mul (x / P) (x % P - 1)
  have e1 := hq.mul (x / P) (x % P)
  have e2 := hq.mul (x / P) (x % P + 1)
  rw [show x % P - 1 + x / P * P = x % P + x / P * P - 1 by omega, Int.mul_comm (x / P) P, Int.emod_add_mul_ediv] at e0
  rw [Int.add_right_comm, Int.mul_comm (x / P) P, Int.emod_add_mul_ediv] at e2
  rw [Int.mul_comm (x / P) P, Int.emod_add_mul_ediv] at e1
  unfold goodV
  cases rep
  · simp only [Bool.false_eq_true, if_false]
    unfold jmp
    rw [e1, e2]
    exact decide_eq_decide.mpr (by omega)
  · simp only [if_true]
    unfold runs
    rw [e0, e1, e2]
    rw [decide_eq_decide.mpr (show p.val (x % P - 1) < p.val (x % P) ↔ p.val (x % P - 1) + x / P * R < p.val (x % P) + x / P * R by omega), decide_eq_decide.mpr (show p.val (x % P) = p.val (x % P + 1) ↔ p.val (x % P) + x / P * R = p.val (x % P + 1) + x / P * R by omega)]
end My

/-! ### inverse pipelines -/
namespace My
open PySem L2
def Step.inv (last : Bool) : Step → Option Step
  | .sc k m c => some (.sc m k (if last = true then m - 1 - c else k - 1 - c))
  | .ev m => if m % 2 = 0 then none else some (.sc m 1 (if last = true then m - 1 - m / 2 else 1 - 1 - m / 2))
def invL (last : Bool) : List Step → Option Pipe
  | [] => some []
  | s :: r => match s.inv last with
    | none => none
    | some t => match invL last r with
      | none => none
      | some q => some (t :: q)
def Pipe.inv (last : Bool) (p : Pipe) : Option Pipe := invL last p.reverse
theorem invL_snoc (last : Bool) : ∀ (r : List Step) (s : Step), invL last (r ++ [s]) = match invL last r with
    | none => none
    | some q => match s.inv last with
      | none => none
      | some t => some (q ++ [t])
  | [], s => by
    simp only [List.nil_append, invL]
    try (cases s.inv last <;> rfl)
  | a :: r, s => by
    simp only [List.cons_append, invL, invL_snoc last r s]
    cases a.inv last with
    | none => rfl
    | some t =>
      cases invL last r with
      | none => rfl
      | some q => cases s.inv last <;> rfl
theorem invL_take {last : Bool} {r : List Step} {i : Nat} {s : Step} (h : r[i]? = some s) : invL last (r.take (i + 1)) = match invL last (r.take i) with
    | none => none
    | some q => match s.inv last with
      | none => none
      | some t => some (q ++ [t]) := by
  rw [List.take_add_one, h]
  exact invL_snoc last _ s
theorem invL_none {last : Bool} {r : List Step} {i : Nat} {s : Step} (h : r[i]? = some s) (hn : s.inv last = none) : invL last r = none := by
  induction r generalizing i with
  | nil => simp at h
  | cons a r ih =>
    cases i with
    | zero => simp at h; subst h; simp [invL, hn]
    | succ i =>
      have := ih (i := i) (by simpa using h)
      simp only [invL, this]
      cases a.inv last <;> rfl
theorem invL_len {last : Bool} : ∀ {r : List Step} {q : Pipe}, invL last r = some q → q.length = r.length
  | [], q, h => by simp [invL] at h; subst h; rfl
  | s :: r, q, h => by
    simp only [invL] at h
    cases hs : s.inv last with
    | none => rw [hs] at h; cases h
    | some t =>
      rw [hs] at h
      cases hr : invL last r with
      | none => rw [hr] at h; cases h
      | some q' => rw [hr] at h; cases h; simp [invL_len hr]
/-- the value of first_inverse, last_inverse as data -/
def invD (last : Bool) (p : Pipe) : PyData := match Pipe.inv last p with
  | none => .none
  | some q => if isPipeD (pipeD q) = true then pipeD q else .none
theorem shaped_invD (last : Bool) (p : Pipe) : SeqAt.shaped (invD last p) = true := by
  unfold invD
  split
  · rfl
  · split
    · exact shaped_pipe _
    · rfl
theorem Pipe.val_app (q p : Pipe) (x : Int) : Pipe.val (q ++ p) x = p.val (q.val x) := by
  unfold Pipe.val; rw [List.foldl_append]
theorem Pipe.prod_app : ∀ q p : Pipe, Pipe.prod (q ++ p) = q.prod * p.prod
  | [], p => by rw [List.nil_append, Pipe.prod_nil, Int.one_mul]
  | s :: q, p => by rw [List.cons_append, Pipe.prod_cons, Pipe.prod_cons, Pipe.prod_app q p, Int.mul_assoc]
/-- the identity, by a window of one period -/
theorem id_iff {f : Int → Int} {L R : Int} (hL : 0 < L) (hq : QP f L R) : (∀ x, f x = x) ↔ L = R ∧ ∀ x : Nat, x < L.toNat → f x = x := by
  constructor
  · intro h
    refine ⟨?_, fun x _ => h x⟩
    have := hq 0
    rw [h, h] at this; omega
  · rintro ⟨rfl, h⟩ x
    rw [hq.at x]
    have h0 := Int.emod_nonneg x (show L ≠ 0 by omega)
    have h1 := Int.emod_lt_of_pos x hL
    have := h (x % L).toNat (by omega)
    rw [show (((x % L).toNat : Nat) : Int) = x % L by omega] at this
    rw [this, Int.mul_comm, Int.emod_add_mul_ediv]
theorem id_iff2 {f : Int → Int} {L R : Int} {n : Nat} (hL : 0 < L) (hq : QP f L R) (hn : L < n) : (∀ x, f x = x) ↔ ∀ x : Nat, x < n → f x = x := by
  constructor
  · intro h x _
    exact h x
  · intro h
    refine (id_iff hL hq).mpr ⟨?_, fun x hx => h x (by omega)⟩
    have h0 := h 0 (by omega)
    have h1 := h L.toNat (by omega)
    rw [show ((L.toNat : Nat) : Int) = L by omega] at h1
    have := hq 0
    rw [show ((0 : Nat) : Int) = 0 from rfl] at h0
    rw [Int.zero_add] at this
    omega
theorem r_slTail {K : PySem.W.Frag} {H : Hp} {Q : VK} {a : Addr} {x : V} {xs : List V} (h : SqT K H a (x :: xs)) (q : ∀ p H', Same H H' → SqT K H' p xs → Q (.ref p) H') : rSlA K (.ref a) (some 1) none H Q :=
  r_slT h fun p H' s f => q p H' s (by have e := cut_from (x :: xs) 1; rw [show ((1 : Nat) : Int) = 1 from rfl] at e; rw [e] at f; exact f)
end My

/-! ### repr of a truth value, is of truth values; inverse pipelines' values -/
namespace My
open PySem L2
def nRepr : List V → Hp → VK → Prop := fun xs H Q => ∃ b : Bool, xs = [.bl b] ∧ Q (.str (if b = true then "True" else "False")) H
theorem krepr {X : Cx} : CallR X (.builtin "repr") nRepr := by
  intro pins s σ H xs us Q I r h
  obtain ⟨b, rfl, q⟩ := h
  obtain ⟨u, rfl, t⟩ := vals1 r
  cases (show u = Value.bool b from t)
  exact PySem.P.repr_of_bool ⟨.str _, H, I.tok _, ⟨_, rfl⟩, q⟩
section
variable {K : PySem.W.Frag} {H : Hp} {Q : VK}
theorem r_repr {b : Bool} (q : Q (.str (if b = true then "True" else "False")) H) : nRepr [.bl b] H Q := ⟨b, rfl, q⟩
theorem r_isB {a b : Bool} (q : Q (.bl (decide (a = b))) H) : rIsB (.bl a) (.bl b) H Q := ⟨a, b, rfl, rfl, q⟩
theorem r_notB {a b : Bool} (q : Q (.bl (!decide (a = b))) H) : rNotB (.bl a) (.bl b) H Q := ⟨a, b, rfl, rfl, q⟩
end
theorem Step.inv_first {s t : Step} (h : s.inv false = some t) (y : Int) : t.val y = s.first y := by
  cases s with
  | sc k m c =>
    simp only [Step.inv, Option.some.injEq] at h
    subst h
    show (m * y + (if false = true then m - 1 - c else k - 1 - c)) / k = (m * y + k - 1 - c) / k
    congr 1
    simp
    omega
  | ev m =>
    simp only [Step.inv] at h
    split at h
    · cases h
    · rename_i hm
      simp only [Option.some.injEq] at h
      subst h
      show (m * y + (if false = true then m - 1 - m / 2 else 1 - 1 - m / 2)) / 1 = if m % 2 = 1 then m * y - m / 2 else m * y - m / 2 + y % 2
      rw [if_neg (show ¬ (false = true) by decide), if_pos (by omega), Int.ediv_one]
      omega
theorem Step.inv_last {s t : Step} (hp : s.pos) (h : s.inv true = some t) (y : Int) : t.val y = s.first (y + 1) - 1 := by
  cases s with
  | sc k m c =>
    simp only [Step.inv, Option.some.injEq] at h
    subst h
    obtain ⟨⟨k1, _⟩, m1, _⟩ := hp
    show (m * y + (if true = true then m - 1 - c else k - 1 - c)) / k = (m * (y + 1) + k - 1 - c) / k - 1
    rw [if_pos rfl, show m * (y + 1) + k - 1 - c = (m * y + (m - 1 - c)) + k * 1 by rw [Int.mul_add]; omega, ediv_shift _ _ _ (by omega)]
    omega
  | ev m =>
    simp only [Step.inv] at h
    split at h
    · cases h
    · rename_i hm
      simp only [Option.some.injEq] at h
      subst h
      show (m * y + (if true = true then m - 1 - m / 2 else 1 - 1 - m / 2)) / 1 = (if m % 2 = 1 then m * (y + 1) - m / 2 else m * (y + 1) - m / 2 + (y + 1) % 2) - 1
      rw [if_pos rfl, if_pos (by omega), Int.ediv_one, Int.mul_add]
      omega
theorem invL_first : ∀ {r : List Step} {q : Pipe}, invL false r = some q → ∀ y, q.val y = Pipe.back r y
  | [], q, h, y => by simp [invL] at h; subst h; rfl
  | s :: r, q, h, y => by
    simp only [invL] at h
    cases hs : s.inv false with
    | none => rw [hs] at h; cases h
    | some t =>
      rw [hs] at h
      cases hr : invL false r with
      | none => rw [hr] at h; cases h
      | some q' =>
        rw [hr] at h; cases h
        show Pipe.val q' (t.val y) = Pipe.back r (s.first y)
        rw [invL_first hr, Step.inv_first hs]
theorem invL_last : ∀ {r : List Step} {q : Pipe}, (∀ s ∈ r, s.pos) → invL true r = some q → ∀ y, q.val y = Pipe.back r (y + 1) - 1
  | [], q, _, h, y => by simp [invL] at h; subst h; show y = y + 1 - 1; omega
  | s :: r, q, hp, h, y => by
    simp only [invL] at h
    cases hs : s.inv true with
    | none => rw [hs] at h; cases h
    | some t =>
      rw [hs] at h
      cases hr : invL true r with
      | none => rw [hr] at h; cases h
      | some q' =>
        rw [hr] at h; cases h
        show Pipe.val q' (t.val y) = Pipe.back r (s.first (y + 1)) - 1
        rw [invL_last (fun t ht => hp t (List.mem_cons_of_mem _ ht)) hr, Step.inv_last (hp s List.mem_cons_self) hs, Int.sub_add_cancel]
theorem inv_val {p q : Pipe} (hp : p.pos) (l : Bool) (h : Pipe.inv l p = some q) (y : Int) : q.val y = if l = true then p.last y else p.first y := by
  cases l
  · rw [if_neg (by decide)]; exact invL_first h y
  · rw [if_pos rfl]; exact invL_last (fun s hs => hp s (List.mem_reverse.mp hs)) h y
theorem eqv_iff {p : Prop} {b b' : Bool} (h : b = true ↔ p) (h' : b' = true ↔ p) : b = b' := by
  cases b <;> cases b' <;> simp_all
theorem nonE : decide (V.non = V.non) = true := decide_eq_true rfl
theorem refE {a : Addr} : decide (V.ref a = V.non) = false := decide_eq_false (fun h => by cases h)
theorem intE {a : Int} : decide (V.int a = V.non) = false := decide_eq_false (fun h => by cases h)
theorem blE {a : Bool} : decide (V.bl a = V.non) = false := decide_eq_false (fun h => by cases h)
theorem optP {K : PySem.W.Frag} {H : Hp} {v : V} {o : Option Pipe} (h : match o with | none => v = V.non | some q => ∃ c, v = V.ref c ∧ PipeAt K H (.ref c) q) : v = .non ∨ ∃ c p, v = .ref c ∧ PipeAt K H v p := by
  cases o with
  | none => exact .inl h
  | some q =>
    obtain ⟨c, rfl, h⟩ := h
    exact .inr ⟨c, q, rfl, h⟩
theorem fl_opt {K : PySem.W.Frag} {a : Addr} {xs : List V} {g : TG} {tb : TS} {D : Ends} {σ : St} {H : Hp} (hS : SqT K H a xs) (hall : ∀ x ∈ xs, x = .non ∨ ∃ c p, x = .ref c ∧ PipeAt K H x p) (Pv : St → Hp → Prop) (h0 : Pv σ H)
    (hs : ∀ x σ' H', Same H H' → (x = .non ∨ ∃ c p, x = .ref c ∧ PipeAt K H' x p) → Pv σ' H' → g x σ' H' fun σ2 H2 => tb { D with nx := fun σ3 H3 => Same H H3 ∧ Pv σ3 H3, ct := fun σ3 H3 => Same H H3 ∧ Pv σ3 H3, bk := D.nx } σ2 H2)
    (hd : ∀ σ' H', Pv σ' H' → D.nx σ' H') : FLoop (Itt K a) g tb D σ H := by
  refine fl_tup (xs := xs) (fun _ σ' H' => Same H H' ∧ Pv σ' H') ⟨Same.refl _, h0⟩ (fun _ _ _ _ h => SqT.hs h.1 hS) (fun i x σ' H' hx h => ?_) (fun σ' H' h => hd _ _ h.2)
  refine hs x σ' H' h.1 ?_ h.2
  rcases hall x (List.mem_of_getElem? hx) with e | ⟨c, p, e, hp⟩
  · exact .inl e
  · exact .inr ⟨c, p, e, PipeAt.hs h.1 hp⟩
theorem invD_eq {l : Bool} {p q : Pipe} (h : Pipe.inv l p = some q) (ok : q.ok) : invD l p = pipeD q := by
  unfold invD; rw [h]; exact if_pos (isPipeD_pipe.mpr ok)
theorem invD_no {l : Bool} {p q : Pipe} (h : Pipe.inv l p = some q) (ok : ¬ q.ok) : invD l p = .none := by
  unfold invD; rw [h]; exact if_neg (fun z => ok (isPipeD_pipe.mp z))
theorem invD_none {l : Bool} {p : Pipe} (h : Pipe.inv l p = none) : invD l p = .none := by
  unfold invD; rw [h]
end My

/-! ### samples: tuples of pairs of ints -/
namespace My
open PySem L2
abbrev Pt := Int × Int
def PtAt (K : PySem.W.Frag) (H : Hp) (v : V) (z : Pt) : Prop := ∃ a, v = .ref a ∧ SqT K H a [.int z.1, .int z.2]
def SampAt (K : PySem.W.Frag) (H : Hp) (v : V) (zs : List Pt) : Prop := ∃ a xs, v = .ref a ∧ SqT K H a xs ∧ Paired (PtAt K H) xs zs
section
variable {K : PySem.W.Frag} {H H' : Hp} {a l p b d : Addr} {o u : HO} {xs ys : List V} {v : V} {z : Pt} {zs : List Pt}
theorem PtAt.keep (e : TKeep K H H') (h : PtAt K H v z) : PtAt K H' v z := by
  obtain ⟨a, q, h⟩ := h
  exact ⟨a, q, e _ _ h⟩
theorem SampAt.keep (e : TKeep K H H') (h : SampAt K H v zs) : SampAt K H' v zs := by
  obtain ⟨a, xs, q, h, r⟩ := h
  exact ⟨a, xs, q, e _ _ h, Paired.mapP r fun _ _ => PtAt.keep e⟩
theorem PtAt.hs (e : Same H H') (h : PtAt K H v z) : PtAt K H' v z := h.keep (.ofSame e)
theorem PtAt.hu (n : H p = none) (h : PtAt K H v z) : PtAt K (L2.upd H p o) v z := h.hs (Same.up (Same.refl _) n)
theorem PtAt.hl (n : H p = some (.lst ys)) (h : PtAt K H v z) : PtAt K (L2.upd H p o) v z := h.keep (TKeep.upL .refl n)
theorem PtAt.hb (e : Bs K b d H H') (h : PtAt K H v z) : PtAt K H' v z := h.keep e.keep
theorem SampAt.hs (e : Same H H') (h : SampAt K H v zs) : SampAt K H' v zs := h.keep (.ofSame e)
theorem SampAt.hu (n : H p = none) (h : SampAt K H v zs) : SampAt K (L2.upd H p o) v zs := h.hs (Same.up (Same.refl _) n)
theorem SampAt.hl (n : H p = some (.lst ys)) (h : SampAt K H v zs) : SampAt K (L2.upd H p o) v zs := h.keep (TKeep.upL .refl n)
theorem SampAt.hb (e : Bs K b d H H') (h : SampAt K H v zs) : SampAt K H' v zs := h.keep e.keep
theorem PtAt.new {a : Addr} {x y : Int} : PtAt K (L2.upd H a (.tup [.int x, .int y])) (.ref a) (x, y) := ⟨a, rfl, SqT.new⟩
theorem PtAt.dp (h : PtAt K H v z) : Dp K H v (.tuple [.int z.1, .int z.2]) := by
  obtain ⟨a, rfl, h⟩ := h
  exact .tup h (.cons (.int _) (.cons (.int _) .nil))
def ptD (z : Pt) : PyData := .tuple [.int z.1, .int z.2]
def sampD (zs : List Pt) : PyData := .tuple (zs.map ptD)
theorem PtAt.ofDp (h : Dp K H v (ptD z)) : PtAt K H v z := by
  cases h with
  | tup h a => cases a with | cons h1 a => cases a with | cons h2 a => cases a; cases h1; cases h2; exact ⟨_, rfl, h⟩
theorem dpAll_ofPt : ∀ {xs : List V} {zs : List Pt}, Paired (PtAt K H) xs zs → DpAll K H xs (zs.map ptD)
  | _, _, .nil => .nil
  | _, _, .cons r t => .cons r.dp (dpAll_ofPt t)
theorem SampAt.dp (h : SampAt K H v zs) : Dp K H v (sampD zs) := by
  obtain ⟨a, xs, rfl, h, r⟩ := h
  exact .tup h (dpAll_ofPt r)
theorem pt_lay (z : Pt) : (ptD z).canLay0 = true ∧ (ptD z).depth ≤ 1 := by
  simp [ptD, PyData.canLay0, PyData.canLayAll0, PyData.depth, PyData.depthAll]
theorem pts_lay : ∀ zs : List Pt, PyData.canLayAll0 (zs.map ptD) = true ∧ PyData.depthAll (zs.map ptD) ≤ 1
  | [] => ⟨rfl, Nat.zero_le _⟩
  | z :: zs => by
    have h1 := pt_lay z
    have h2 := pts_lay zs
    simp only [List.map_cons, PyData.canLayAll0, PyData.depthAll, h1.1, h2.1, Bool.and_self, true_and]
    omega
theorem shaped_pt (z : Pt) : SeqAt.shaped (ptD z) = true := by
  have h := pt_lay z
  unfold SeqAt.shaped
  rw [h.1]; simp; omega
theorem shaped_samp (zs : List Pt) : SeqAt.shaped (sampD zs) = true := by
  have h := pts_lay zs
  unfold sampD
  rw [shaped_tup, h.1]; simp; omega
end
section
variable {K : PySem.W.Frag} {σ : St} {H : Hp} {Q : VK} {te : TE} {tt : TT} {i0 j0 : Nat} {a : Addr} {xs : List V} {zs : List Pt}
theorem samp_step {i : Nat} {z : Pt} {H' : Hp} {D : Addr} {c : Pt → Bool} {f : Pt → V} (hD : H D = none) (hsz : zs.length < 16777216) (ez : zs[i]? = some z) (hS : Same H H') (hl : H' D = some (.lst (((zs.take i).filter c).map f)))
    (ht : ∀ (z : Pt) (H' : Hp) (Q' : Bool → Hp → Prop), z ∈ zs → Same H H' → (∀ H4, Same H' H4 → Q' (c z) H4) → tt (((wipe σ [i0, j0]).set i0 (some (.int z.1))).set j0 (some (.int z.2))) H' Q')
    (hs : ∀ (z : Pt) (H' : Hp) (Q' : VK), z ∈ zs → Same H H' → (∀ H4, Same H' H4 → Q' (f z) H4) → te (((wipe σ [i0, j0]).set i0 (some (.int z.1))).set j0 (some (.int z.2))) H' Q') :
    tt (((wipe σ [i0, j0]).set i0 (some (.int z.1))).set j0 (some (.int z.2))) H' fun b H3 =>
      if b = true then te (((wipe σ [i0, j0]).set i0 (some (.int z.1))).set j0 (some (.int z.2))) H3 fun y H4 => ∃ acc, H4 D = some (.lst acc) ∧ acc.length < sizeLine ∧ (Same H (L2.upd H4 D (.lst (acc ++ [y]))) ∧ (L2.upd H4 D (.lst (acc ++ [y]))) D = some (.lst (((zs.take (i + 1)).filter c).map f))) else (Same H H3 ∧ H3 D = some (.lst (((zs.take (i + 1)).filter c).map f))) := by
  have hm : z ∈ zs := List.mem_of_getElem? ez
  have e : (zs.take (i + 1)).filter c = (zs.take i).filter c ++ if c z = true then [z] else [] := by
    rw [take_succ_of ez, List.filter_append]
    by_cases hc : c z = true
    · simp [hc]
    · simp [hc]
  refine ht z H' _ hm hS fun H3 h3 => ?_
  by_cases hc : c z = true
  · rw [if_pos hc]
    refine hs z H3 _ hm (hS.trans h3) fun H4 h4 => ⟨_, h4 _ _ (h3 _ _ hl), ?_, Same.upN ((hS.trans h3).trans h4) hD, ?_⟩
    · have h1 := List.length_filter_le c (zs.take i)
      have h2 := List.length_take_le' i zs
      rw [List.length_map, PySem.sizeLine_eq]; omega
    · rw [upd_same, e, if_pos hc, List.map_append]; rfl
  · rw [if_neg hc]
    exact ⟨hS.trans h3, by rw [e, if_neg hc, List.append_nil]; exact h3 _ _ hl⟩
theorem ll_sampT (f : Pt → V) (c : Pt → Bool) (hS : SqT K H a xs) (hx : Paired (PtAt K H) xs zs) (hsz : zs.length < 16777216)
    (hw : ∀ x y, wipe (((wipe σ [i0, j0]).set i0 (some x)).set j0 (some y)) [i0, j0] = wipe σ [i0, j0])
    (ht : ∀ (z : Pt) (H' : Hp) (Q' : Bool → Hp → Prop), z ∈ zs → Same H H' → (∀ H4, Same H' H4 → Q' (c z) H4) → tt (((wipe σ [i0, j0]).set i0 (some (.int z.1))).set j0 (some (.int z.2))) H' Q')
    (hs : ∀ (z : Pt) (H' : Hp) (Q' : VK), z ∈ zs → Same H H' → (∀ H4, Same H' H4 → Q' (f z) H4) → te (((wipe σ [i0, j0]).set i0 (some (.int z.1))).set j0 (some (.int z.2))) H' Q')
    (hd : ∀ D H', Same H H' → H' D = some (.lst ((zs.filter c).map f)) → H D = none → Q (.ref D) H') : LLoop (Itt K a) (gTup K 2 (gCons (gName i0) (gCons (gName j0) gNil))) tt te [i0, j0] σ H Q := by
  refine fun D hD => lc_tup (K := K) (a := a) (xs := xs) (fun i H' => Same H H' ∧ H' D = some (.lst (((zs.take i).filter c).map f))) ⟨Same.up (Same.refl _) hD, upd_same⟩ (fun i H' _ h => SqT.same h.1 hS) (fun i x H' hxi h => ?_) (fun H' h => ?_)
  · obtain ⟨h1, h2⟩ := h
    obtain ⟨z, ez, b, rfl, hb⟩ := Paired.get hx hxi
    exact ⟨b, _, rfl, SqT.same h1 hb, rfl, _, _, rfl, _, _, rfl, rfl, hw _ _, samp_step hD hsz ez h1 h2 ht hs⟩
  · obtain ⟨h1, h2⟩ := h
    rw [Paired.len hx, List.take_length] at h2
    exact hd D H' h1 h2 hD
theorem ll_sampL (f : Pt → V) (c : Pt → Bool) (hS : SqL K H a xs) (hx : Paired (PtAt K H) xs zs) (hsz : zs.length < 16777216)
    (hw : ∀ x y, wipe (((wipe σ [i0, j0]).set i0 (some x)).set j0 (some y)) [i0, j0] = wipe σ [i0, j0])
    (ht : ∀ (z : Pt) (H' : Hp) (Q' : Bool → Hp → Prop), z ∈ zs → Same H H' → (∀ H4, Same H' H4 → Q' (c z) H4) → tt (((wipe σ [i0, j0]).set i0 (some (.int z.1))).set j0 (some (.int z.2))) H' Q')
    (hs : ∀ (z : Pt) (H' : Hp) (Q' : VK), z ∈ zs → Same H H' → (∀ H4, Same H' H4 → Q' (f z) H4) → te (((wipe σ [i0, j0]).set i0 (some (.int z.1))).set j0 (some (.int z.2))) H' Q')
    (hd : ∀ D H', Same H H' → H' D = some (.lst ((zs.filter c).map f)) → H D = none → Q (.ref D) H') : LLoop (Itl K a) (gTup K 2 (gCons (gName i0) (gCons (gName j0) gNil))) tt te [i0, j0] σ H Q := by
  refine fun D hD => lc_list (K := K) (a := a) (xs := xs) (fun i H' => Same H H' ∧ H' D = some (.lst (((zs.take i).filter c).map f))) ⟨Same.up (Same.refl _) hD, upd_same⟩ (fun i H' _ h => SqL.same h.1 hS) (fun i x H' hxi h => ?_) (fun H' h => ?_)
  · obtain ⟨h1, h2⟩ := h
    obtain ⟨z, ez, b, rfl, hb⟩ := Paired.get hx hxi
    exact ⟨b, _, rfl, SqT.same h1 hb, rfl, _, _, rfl, _, _, rfl, rfl, hw _ _, samp_step hD hsz ez h1 h2 ht hs⟩
  · obtain ⟨h1, h2⟩ := h
    rw [Paired.len hx, List.take_length] at h2
    exact hd D H' h1 h2 hD
end
theorem tyes {z : Pt} {σ : Pt → St} {H H' : Hp} {zs : List Pt} {Q' : Bool → Hp → Prop} (hz : z ∈ zs) (hs : Same H H') (k : ∀ H4, Same H' H4 → Q' true H4) : tYes (σ z) H' Q' := k H' (Same.refl _)
/-! ### a step put in -/
abbrev insP (p : Pipe) (s : Step) (i : Nat) : Pipe := p.take i ++ [s] ++ p.drop i
def fitsB (p : Pipe) (zs : List Pt) : Bool := zs.all fun z => decide (p.val z.1 = z.2)
def insB (p : Pipe) (s : Step) (zs : List Pt) (i : Nat) : Bool := decide (insP p s i).ok && fitsB (insP p s i) zs
theorem insP_mem {p : Pipe} {s : Step} {i : Nat} {t : Step} (h : t ∈ insP p s i) : t = s ∨ t ∈ p := by
  unfold insP at h
  rcases List.mem_append.mp h with h | h
  · rcases List.mem_append.mp h with h | h
    · exact .inr (List.mem_of_mem_take h)
    · exact .inl (List.mem_singleton.mp h)
  · exact .inr (List.mem_of_mem_drop h)
theorem insP_pos {p : Pipe} {s : Step} (hp : p.pos) (hs : s.pos) (i : Nat) : (insP p s i).pos := fun t ht => by
  rcases insP_mem ht with rfl | h
  · exact hs
  · exact hp t h
theorem insP_oks {p : Pipe} {s : Step} (hp : ∀ t ∈ p, t.ok) (hs : s.ok) (i : Nat) : ∀ t ∈ insP p s i, t.ok := fun t ht => by
  rcases insP_mem ht with rfl | h
  · exact hs
  · exact hp t h
theorem insP_len (p : Pipe) (s : Step) (i : Nat) : (insP p s i).length = p.length + 1 := by
  unfold insP
  simp only [List.length_append, List.length_take, List.length_drop, List.length_cons, List.length_nil]
  omega
theorem fits_filter (p : Pipe) (zs : List Pt) : (zs.filter fun z => !decide (p.val z.1 = z.2)) = [] ↔ fitsB p zs = true := by
  unfold fitsB
  rw [List.filter_eq_nil_iff, List.all_eq_true]
  simp
end My
namespace My
open PySem L2
section
variable {K : PySem.W.Frag} {H : Hp} {Q : VK} {a : Addr}
theorem r_lenP {p : Pipe} (h : PipeAt K H (.ref a) p) (q : Q (.int p.length) H) : nLen K [.ref a] H Q := by
  obtain ⟨_, xs, e, h, r⟩ := h
  cases e
  exact r_lenT h (by rw [Paired.len r]; exact q)
theorem r_lenSm {zs : List Pt} (h : SampAt K H (.ref a) zs) (q : Q (.int zs.length) H) : nLen K [.ref a] H Q := by
  obtain ⟨_, xs, e, h, r⟩ := h
  cases e
  exact r_lenT h (by rw [Paired.len r]; exact q)
theorem pairNilP : Paired (PtAt K H) [] [] := .nil
theorem pairConsP {v : V} {s : Pt} {xs : List V} {p : List Pt} (h : PtAt K H v s) (t : Paired (PtAt K H) xs p) : Paired (PtAt K H) (v :: xs) (s :: p) := .cons h t
theorem SampAt.new {a : Addr} {xs : List V} {p : List Pt} (r : Paired (PtAt K (L2.upd H a (.tup xs))) xs p) : SampAt K (L2.upd H a (.tup xs)) (.ref a) p := ⟨a, xs, rfl, SqT.new, r⟩
theorem SampAt.nil {a : Addr} : SampAt K (L2.upd H a (.tup [])) (.ref a) [] := ⟨a, [], rfl, SqT.new, .nil⟩
end
def isSampD : PyData → Bool
  | .tuple ds => decide (ds.length = 2) && ds.all fun d => isIntD d (-1000000000000000000) 1000000000000000000
  | _ => false
def PtOk (z : Pt) : Prop := (-1000000000000000000 ≤ z.1 ∧ z.1 ≤ 1000000000000000000) ∧ (-1000000000000000000 ≤ z.2 ∧ z.2 ≤ 1000000000000000000)
instance (z : Pt) : Decidable (PtOk z) := by unfold PtOk; infer_instance
theorem isSampD_pt (z : Pt) : isSampD (ptD z) = true ↔ PtOk z := by
  simp [isSampD, ptD, isIntD, PtOk]
def insL (p : Pipe) (s : Step) (zs : List Pt) (n : Nat) : List Int := ((List.range n).filter (insB p s zs)).map fun (i : Nat) => (i : Int)
theorem insL_succ (p : Pipe) (s : Step) (zs : List Pt) (n : Nat) : insL p s zs (n + 1) = insL p s zs n ++ if insB p s zs n = true then [(n : Int)] else [] := by
  unfold insL
  rw [List.range_succ, List.filter_append, List.map_append]
  by_cases h : insB p s zs n = true
  · simp [h]
  · simp [h]
theorem insL_len (p : Pipe) (s : Step) (zs : List Pt) (n : Nat) : (insL p s zs n).length ≤ n := by
  unfold insL
  rw [List.length_map]
  have := List.length_filter_le (insB p s zs) (List.range n)
  rwa [List.length_range] at this
theorem insB_iff {p : Pipe} {s : Step} {zs : List Pt} {i : Nat} : insB p s zs i = true ↔ (insP p s i).ok ∧ fitsB (insP p s i) zs = true := by
  unfold insB; simp
theorem PipeAt.ref {K : PySem.W.Frag} {H : Hp} {v : V} {p : Pipe} (h : PipeAt K H v p) : ∃ a, v = .ref a := by
  obtain ⟨a, _, e, _⟩ := h
  exact ⟨a, e⟩
theorem SampAt.ref {K : PySem.W.Frag} {H : Hp} {v : V} {p : List Pt} (h : SampAt K H v p) : ∃ a, v = .ref a := by
  obtain ⟨a, _, e, _⟩ := h
  exact ⟨a, e⟩
theorem StepAt.ref {K : PySem.W.Frag} {H : Hp} {v : V} {s : Step} (h : StepAt K H v s) : ∃ a, v = .ref a := by
  obtain ⟨a, e, _⟩ := h
  exact ⟨a, e⟩
end My

/-! ### the first difference of two pipelines in search order -/
namespace My
open PySem L2
theorem agree_all {f g : Int → Int} {P R P' R' : Int} (hf : QP f P R) (hg : QP g P' R') (hP : 0 < P) (hP' : 0 < P') (h : ∀ x, -(P + P') ≤ x → x ≤ P + P' → f x = g x) : ∀ x, f x = g x := by
  have up : ∀ n : Nat, ∀ x : Int, -(P + P') ≤ x → x ≤ n → f x = g x := by
    intro n
    induction n with
    | zero => intro x h1 h2; exact h x h1 (by omega)
    | succ n ih =>
      intro x h1 h2
      rcases Int.lt_or_le (P + P') x with hx | hx
      · have a1 := hf (x - P)
        have a2 := hg (x - P - P')
        have a3 := hf (x - P - P')
        have a4 := hg (x - P')
        rw [show x - P + P = x by omega] at a1
        rw [show x - P - P' + P' = x - P by omega] at a2
        rw [show x - P - P' + P = x - P' by omega] at a3
        rw [show x - P' + P' = x by omega] at a4
        have b1 := ih (x - P) (by omega) (by omega)
        have b2 := ih (x - P - P') (by omega) (by omega)
        have b3 := ih (x - P') (by omega) (by omega)
        omega
      · exact h x h1 hx
  have dn : ∀ n : Nat, ∀ x : Int, x ≤ P + P' → -(n : Int) ≤ x → f x = g x := by
    intro n
    induction n with
    | zero => intro x h1 h2; exact h x (by omega) h1
    | succ n ih =>
      intro x h1 h2
      rcases Int.lt_or_le x (-(P + P')) with hx | hx
      · have a1 := hf x
        have a2 := hg (x + P)
        have a3 := hf (x + P')
        have a4 := hg x
        rw [show x + P' + P = x + P + P' by omega] at a3
        have b1 := ih (x + P) (by omega) (by omega)
        have b2 := ih (x + P + P') (by omega) (by omega)
        have b3 := ih (x + P') (by omega) (by omega)
        omega
      · exact h x hx h1
  intro x
  rcases Int.le_total x (P + P') with hx | hx
  · exact dn x.natAbs x hx (by omega)
  · exact up x.natAbs x (by omega) (by omega)
def difL (f g : Int → Int) (xs : List Int) : Option Int := xs.find? fun x => decide (f x ≠ g x)
theorem dif_take {f g : Int → Int} {xs : List Int} {i : Nat} {x : Int} (h : xs[i]? = some x) (hn : difL f g (xs.take i) = none) : difL f g (xs.take (i + 1)) = if f x = g x then none else some x := by
  unfold difL at *
  rw [List.take_add_one, h, List.find?_append, hn]
  by_cases hx : f x = g x
  · simp [hx]
  · simp [hx]
theorem dif_take_some {f g : Int → Int} {xs : List Int} {i : Nat} {x z : Int} (h : xs[i]? = some x) (hn : difL f g (xs.take i) = some z) : difL f g (xs.take (i + 1)) = some z := by
  unfold difL at *
  rw [List.take_add_one, h, List.find?_append, hn]
  rfl
theorem dif_at {f g : Int → Int} {xs : List Int} {i : Nat} {x : Int} (h : xs[i]? = some x) (hn : difL f g (xs.take i) = none) (hx : f x ≠ g x) : difL f g xs = some x := by
  have h1 := dif_take h hn
  rw [if_neg hx] at h1
  have : xs = xs.take (i + 1) ++ xs.drop (i + 1) := (List.take_append_drop _ _).symm
  unfold difL at *
  rw [this, List.find?_append, h1]; rfl
theorem dif_none {f g : Int → Int} {P R P' R' : Int} {n : Nat} (hf : QP f P R) (hg : QP g P' R') (hP : 0 < P) (hP' : 0 < P') (hn : P + P' ≤ n) : difL f g (ordL n) = none ↔ ∀ x, f x = g x := by
  unfold difL
  rw [List.find?_eq_none]
  constructor
  · intro h
    refine agree_all hf hg hP hP' fun x h1 h2 => ?_
    have := h x (ordL_mem n x (by omega) (by omega))
    simpa using this
  · intro h x _
    simp [h x]
theorem dif_eq {f g : Int → Int} {P R P' R' : Int} {n m : Nat} (hf : QP f P R) (hg : QP g P' R') (hP : 0 < P) (hP' : 0 < P') (hn : P + P' ≤ n) (h : n ≤ m) : difL f g (ordL m) = difL f g (ordL n) := by
  obtain ⟨t, ht⟩ := ordL_pre h
  cases hh : difL f g (ordL n) with
  | some z =>
    unfold difL at *
    rw [ht, List.find?_append, hh]; rfl
  | none => exact (dif_none hf hg hP hP' (by omega)).mpr ((dif_none hf hg hP hP' hn).mp hh)
theorem dif_sym (f g : Int → Int) (xs : List Int) : difL f g xs = difL g f xs := by
  unfold difL
  congr 1
  funext x
  exact decide_eq_decide.mpr ⟨fun h e => h e.symm, fun h e => h e.symm⟩
theorem dif_some {f g : Int → Int} {xs : List Int} {x : Int} (h : difL f g xs = some x) : f x ≠ g x := by
  unfold difL at h
  have := List.find?_some h
  simpa using this
theorem dif_self (f : Int → Int) (xs : List Int) : difL f f xs = none := by
  unfold difL
  rw [List.find?_eq_none]
  intro x _
  simp
/-- the value of first_difference -/
structure DifO (p q : Pipe) (o : Option Int) : Prop where
  ex : ∃ n : Nat, o = difL p.val q.val (ordL n) ∧ (∀ m, n ≤ m → difL p.val q.val (ordL m) = o) ∧ (n : Int) ≤ p.prod + q.prod
theorem DifO.at {p q : Pipe} {o : Option Int} (h : DifO p q o) {m : Nat} (hm : p.prod + q.prod ≤ m) : difL p.val q.val (ordL m) = o := by
  obtain ⟨n, _, h2, h3⟩ := h.ex
  exact h2 m (by omega)
theorem DifO.mk' {p q : Pipe} (hp : p.pos) (hq : q.pos) {P R P' R' : Int} (l : Least p.val P R) (l' : Least q.val P' R') {n : Nat} (hn : (n : Int) = P + P') : DifO p q (difL p.val q.val (ordL n)) := by
  have b1 := (l.bounds hp).1
  have b2 := (l'.bounds hq).1
  exact ⟨n, rfl, fun m hm => dif_eq l.qp l'.qp l.pos l'.pos (by omega) hm, by omega⟩
theorem DifO.uniq {p q : Pipe} (hp : p.pos) (hq : q.pos) {o o' : Option Int} (h : DifO p q o) (h' : DifO p q o') : o = o' := by
  have h1 := Pipe.prod_pos' hp
  have h2 := Pipe.prod_pos' hq
  rw [← h.at (m := (p.prod + q.prod).toNat) (by omega), ← h'.at (m := (p.prod + q.prod).toNat) (by omega)]
theorem DifO.symm {p q : Pipe} {o : Option Int} (h : DifO p q o) : DifO q p o := by
  obtain ⟨n, h1, h2, h3⟩ := h.ex
  exact ⟨n, by rw [h1, dif_sym], fun m hm => by rw [dif_sym]; exact h2 m hm, by omega⟩
theorem DifO.none_iff {p q : Pipe} (hp : p.pos) (hq : q.pos) {o : Option Int} (h : DifO p q o) : o = none ↔ ∀ x, p.val x = q.val x := by
  have h1 := Pipe.prod_pos' hp
  have h2 := Pipe.prod_pos' hq
  rw [← h.at (m := (p.prod + q.prod).toNat) (by omega)]
  exact dif_none (Pipe.qp hp) (Pipe.qp hq) (by omega) (by omega) (by omega)
theorem DifO.some {p q : Pipe} {x : Int} (h : DifO p q (some x)) : p.val x ≠ q.val x := by
  obtain ⟨n, h1, _⟩ := h.ex
  exact dif_some h1.symm
theorem DifO.self {p : Pipe} (hp : p.pos) {o : Option Int} (h : DifO p p o) : o = none := (h.none_iff hp hp).mpr fun _ => rfl
theorem optV_isN (o : Option Int) : decide (optV o = V.non) = o.isNone := by
  cases o with
  | none => exact decide_eq_true rfl
  | some x => exact decide_eq_false (by intro h; cases h)
end My
namespace My
open PySem L2
/-! ### a step replaced -/
abbrev repP (p : Pipe) (s : Step) (i : Nat) : Pipe := p.take i ++ [s] ++ p.drop (i + 1)
theorem repP_mem {p : Pipe} {s : Step} {i : Nat} {t : Step} (h : t ∈ repP p s i) : t = s ∨ t ∈ p := by
  unfold repP at h
  rcases List.mem_append.mp h with h | h
  · rcases List.mem_append.mp h with h | h
    · exact .inr (List.mem_of_mem_take h)
    · exact .inl (List.mem_singleton.mp h)
  · exact .inr (List.mem_of_mem_drop h)
theorem repP_pos {p : Pipe} {s : Step} (hp : p.pos) (hs : s.pos) (i : Nat) : (repP p s i).pos := fun t ht => by
  rcases repP_mem ht with rfl | h
  · exact hs
  · exact hp t h
theorem repP_oks {p : Pipe} {s : Step} (hp : ∀ t ∈ p, t.ok) (hs : s.ok) (i : Nat) : ∀ t ∈ repP p s i, t.ok := fun t ht => by
  rcases repP_mem ht with rfl | h
  · exact hs
  · exact hp t h
theorem repP_len {p : Pipe} {s : Step} {i : Nat} (h : i < p.length) : (repP p s i).length = p.length := by
  unfold repP
  simp only [List.length_append, List.length_take, List.length_drop, List.length_cons, List.length_nil]
  omega
section
variable {K : PySem.W.Frag} {H : Hp} {Q : VK} {a : Addr}
theorem r_slPfrom1 {p : Pipe} {n : Nat} (h : PipeAt K H (.ref a) p) (q : ∀ c H', Same H H' → PipeAt K H' (.ref c) (p.drop (n + 1)) → Q (.ref c) H') : rSlA K (.ref a) (some ((n : Nat) + 1 : Int)) none H Q := r_slPfrom (n := n + 1) h q
theorem r_ixP {p : Pipe} {n : Nat} (h : PipeAt K H (.ref a) p) (hn : n < p.length) (q : ∀ v, StepAt K H v p[n] → Q v H) : rIxT K (.ref a) (.int (n : Int)) H Q := by
  obtain ⟨_, xs, e, h, r⟩ := h
  cases e
  have hl := Paired.len r
  have hx : n < xs.length := by omega
  obtain ⟨s, hs, f⟩ := Paired.get r (List.getElem?_eq_getElem hx)
  rw [List.getElem?_eq_getElem hn] at hs
  cases hs
  exact r_ixT h (at_of (j := n) rfl (List.getElem?_eq_getElem hx)) (q _ f)
theorem r_ixLP {xs : List V} {p : Pipe} {n : Nat} (h : SqL K H a xs) (r : Paired (StepAt K H) xs p) (hn : n < p.length) (q : ∀ v s, StepAt K H v s → p[n]? = some s → Q v H) : rIxL K (.ref a) (.int (n : Int)) H Q := by
  have hl := Paired.len r
  have hx : n < xs.length := by omega
  obtain ⟨s, hs, f⟩ := Paired.get r (List.getElem?_eq_getElem hx)
  exact r_ixL h (at_of (j := n) rfl (List.getElem?_eq_getElem hx)) (q _ s f hs)
theorem set_oks {p : Pipe} {s : Step} (h : ∀ t ∈ p, t.ok) (hs : s.ok) (n : Nat) : ∀ t ∈ p.set n s, t.ok := fun t ht => by
  rcases List.mem_or_eq_of_mem_set ht with h' | rfl
  · exact h t h'
  · exact hs
end
theorem ixN_nat {n i : Nat} (h : i < n) : ixN n (i : Int) = some i := by
  unfold ixN
  rw [if_pos (by omega), if_pos (by omega)]
  simp
theorem Paired.set' {α β : Type} {F : α → β → Prop} : ∀ (n : Nat) {xs : List α} {ys : List β} {x : α} {y : β}, Paired F xs ys → F x y → Paired F (xs.set n x) (ys.set n y)
  | _, _, _, _, _, .nil, _ => .nil
  | 0, _, _, _, _, .cons _ t, h => .cons h t
  | n + 1, _, _, _, _, .cons r t, h => .cons r (Paired.set' n t h)
end My

/-! ### xs[a:b] = ys of a list -/
namespace My
open PySem L2
def gSli (to ta tc : TE) : TG := fun v σ H Q => to σ H fun o H1 => ta σ H1 fun x H2 => tc σ H2 fun y H3 => ∃ (l b : Addr) (xs ys : List V) (a c : Int), o = .ref l ∧ v = .ref b ∧ x = .int a ∧ y = .int c ∧ H3 l = some (.lst xs) ∧ H3 b = some (.lst ys) ∧ l ≠ b ∧ 0 ≤ a ∧ a ≤ c ∧ c ≤ xs.length ∧ xs.length + ys.length ≤ sizeLine ∧ Q σ (upd H3 l (.lst (xs.take a.toNat ++ ys ++ xs.drop c.toNat)))
theorem pg_slc {X : Cx} {o lo hi : Expr} {to ta tc : TE} {p2 pos : Pos} (ho : PE X o to) (hl : PE X lo ta) (hu : PE X hi tc) : PG X (.Subscript o (.Slice (some lo) (some hi) none p2) pos) (gSli to ta tc) := by
  refine ⟨fun pins s σ H v u Q I r h => ?_⟩
  rw [arm_assign_Subscript]
  refine wpAny_bind (wpAny_holding (thn (ho.run pins s σ H _ I h) fun ov s1 ⟨x, H1, I1, r1, q1⟩ => ?_))
  refine wpAny_bind (wpAny_holding (wpAny_Slice ?_))
  rw [evalPart_some]
  refine thn (hl.run pins s1 σ H1 _ I1 q1) fun vl s2 ⟨x2, H2, I2, r2, q2⟩ => ?_
  rw [evalPart_some]
  refine thn (hu.run pins s2 σ H2 _ I2 q2) fun vu s3 ⟨y, H3, I3, r3, q3⟩ => ?_
  rw [evalPart_none]
  refine wpAny_pure ?_
  obtain ⟨l, b, xs, ys, a, c, rfl, rfl, rfl, rfl, hL, hB, hne, h0, hac, hc, hz, q⟩ := q3
  cases r1
  cases r
  have I4 : Inv X pins σ H3 { s3 with heap := s3.heap.push { cls := .type "slice", data := .fields #[vl, vu, .none] } } := I3.kept (t' := s3.toks) fun b ob q => Heap.get?_push_of_some _ q
  refine wpAny_bind (wpAny_standAt (wpAny_bind (wpAny_holding (set_slice I4 hL hB hne (Heap.IsSliceOf.new ..) r2 r3 h0 hac hc hz fun s' I' => ?_))))
  exact wpAny_release ⟨σ, _, I', q⟩
section
variable {K : PySem.W.Frag} {σ : St} {H : Hp} {Q : VK} {to ta tc : TE} {v : V} {R : St → Hp → Prop}
def nSli (v o x y : V) (H3 : Hp) (q : Hp → Prop) : Prop := ∃ (l b : Addr) (xs ys : List V) (a c : Int), o = .ref l ∧ v = .ref b ∧ x = .int a ∧ y = .int c ∧ H3 l = some (.lst xs) ∧ H3 b = some (.lst ys) ∧ l ≠ b ∧ 0 ≤ a ∧ a ≤ c ∧ c ≤ xs.length ∧ xs.length + ys.length ≤ sizeLine ∧ q (upd H3 l (.lst (xs.take a.toNat ++ ys ++ xs.drop c.toNat)))
theorem s_sli (h : to σ H fun o H1 => ta σ H1 fun x H2 => tc σ H2 fun y H3 => nSli v o x y H3 (R σ)) : gSli to ta tc v σ H R := h
theorem r_sliN {l b : Addr} {xs ys : List V} {n : Nat} {q : Hp → Prop} (hL : H l = some (.lst xs)) (hB : H b = some (.lst ys)) (hne : l ≠ b) (hn : n < xs.length) (hz : xs.length + ys.length ≤ 16777216) (k : q (upd H l (.lst (xs.take n ++ ys ++ xs.drop (n + 1))))) : nSli (.ref b) (.ref l) (.int (n : Int)) (.int ((n : Int) + 1)) H q :=
  ⟨l, b, xs, ys, n, (n : Int) + 1, rfl, rfl, rfl, rfl, hL, hB, hne, by omega, by omega, by omega, sz_le hz, by simpa using k⟩
/-- rows == [] of a list of steps -/
theorem r_eqNilLs {a b : Addr} {xs : List V} {p : Pipe} (h : SqL K H a xs) (r : Paired (StepAt K H) xs p) (h' : SqL K H b []) (q : Q (.bl p.isEmpty) H) : rEqD K (.ref a) (.ref b) H Q := by
  refine r_eqD (.lst h (dpAll_of r)) (.lst h' .nil) ?_ rfl ?_
  · have hl := steps_lay p
    unfold SeqAt.shaped
    have h2 := hl.2
    simp [PyData.canLay0, PyData.depth, hl.1]
    omega
  · cases p <;> exact q
end
theorem Pipe.rises_app : ∀ q p : Pipe, Pipe.rises (q ++ p) = q.rises * p.rises
  | [], p => by rw [List.nil_append]; show _ = 1 * _; rw [Int.one_mul]
  | s :: q, p => by rw [List.cons_append, Pipe.rises_cons, Pipe.rises_cons, Pipe.rises_app q p, Int.mul_assoc]
theorem pow120_mono {m n : Nat} (h : m ≤ n) : (120 : Int) ^ m ≤ 120 ^ n := by
  obtain ⟨k, rfl⟩ := Nat.exists_eq_add_of_le h
  rw [Int.pow_add]
  have h1 := one_le_pow120 k
  have h2 := one_le_pow120 m
  have := Int.mul_le_mul_of_nonneg_left h1 (show 0 ≤ (120 : Int) ^ m by omega)
  omega
/-- at most n rises of 120 -/
def RiseLe (p : Pipe) (n : Nat) : Prop := p.rises ≤ 120 ^ n
theorem RiseLe.len {p : Pipe} (hp : p.pos) {n : Nat} (h : p.length ≤ n) : RiseLe p n := Pipe.rises_le n hp h
theorem RiseLe.split {p q : Pipe} {c c' m : Int} (hp : p.pos) (hq : q.pos) {n : Nat} (h : p.length + q.length ≤ n) : RiseLe (p ++ [.sc 1 1 c, .sc 1 m c'] ++ q) n := by
  have h1 := RiseLe.len (p := p ++ q) (fun s hs => by rcases List.mem_append.mp hs with h | h; exact hp s h; exact hq s h) (n := n) (by rw [List.length_append]; exact h)
  unfold RiseLe at *
  rw [Pipe.rises_app] at h1
  rw [Pipe.rises_app, Pipe.rises_app]
  have e : Pipe.rises [.sc 1 1 c, .sc 1 m c'] = 1 := by simp [Pipe.rises, Step.rise]
  rw [e, Int.mul_one]; exact h1
theorem cut_pair {F : V → Step → Prop} {xs : List V} {p : Pipe} (n : Nat) (h : Paired F xs p) : Paired F (cutV xs none (some (n : Int)) ++ cutV xs (some ((n : Int) + 1)) none) (p.take n ++ p.drop (n + 1)) := by
  rw [cut_to, show ((n : Int) + 1) = ((n + 1 : Nat) : Int) from rfl, cut_from]
  exact Paired.app (Paired.take' n h) (Paired.drop' (n + 1) h)
theorem cut_oks {p : Pipe} (h : ∀ t ∈ p, t.ok) (n m : Nat) : ∀ t ∈ p.take n ++ p.drop m, t.ok := fun t ht => by
  rcases List.mem_append.mp ht with h' | h'
  · exact h t (List.mem_of_mem_take h')
  · exact h t (List.mem_of_mem_drop h')
theorem spl_oks {p : Pipe} {s s' : Step} (h : ∀ t ∈ p, t.ok) (hs : s.ok) (hs' : s'.ok) (n m : Nat) : ∀ t ∈ p.take n ++ [s, s'] ++ p.drop m, t.ok := fun t ht => by
  rcases List.mem_append.mp ht with h' | h'
  · rcases List.mem_append.mp h' with h' | h'
    · exact h t (List.mem_of_mem_take h')
    · simp only [List.mem_cons, List.not_mem_nil, or_false] at h'
      rcases h' with rfl | rfl
      · exact hs
      · exact hs'
  · exact h t (List.mem_of_mem_drop h')
theorem poss {p : Pipe} (h : ∀ t ∈ p, t.ok) : p.pos := fun t ht => (h t ht).pos
section
variable {K : PySem.W.Frag} {H : Hp} {Q : VK}
theorem eqv_nilP (p : Pipe) : PyData.eqv (pipeD p) (.tuple []) = p.isEmpty := by
  cases p <;> rfl
theorem r_neNilP {a b : Addr} {p : Pipe} (h : PipeAt K H (.ref a) p) (h' : SqT K H b []) (q : Q (.bl (!p.isEmpty)) H) : rNeD K (.ref a) (.ref b) H Q :=
  r_neD h.dp (Dp.tup h' .nil) (shaped_pipe p) rfl (by rw [eqv_nilP]; exact q)
theorem r_eqNilP {a b : Addr} {p : Pipe} (h : PipeAt K H (.ref a) p) (h' : SqT K H b []) (q : Q (.bl p.isEmpty) H) : rEqD K (.ref a) (.ref b) H Q :=
  r_eqD h.dp (Dp.tup h' .nil) (shaped_pipe p) rfl (by rw [eqv_nilP]; exact q)
theorem r_slP1 {a : Addr} {p : Pipe} (h : PipeAt K H (.ref a) p) (q : ∀ c H', Same H H' → PipeAt K H' (.ref c) (p.take 1) → Q (.ref c) H') : rSlA K (.ref a) none (some 1) H Q := r_slPto (n := 1) h q
end
theorem repP_repP {p : Pipe} {x y : Step} {n : Nat} (h : n < p.length) : repP (repP p x n) y n = repP p y n := by
  have hl : (p.take n).length = n := by rw [List.length_take]; omega
  have e1 : (p.take n ++ [x] ++ p.drop (n + 1)).take n = p.take n := by
    rw [List.append_assoc, List.take_append_of_le_length (by omega), List.take_take, Nat.min_self]
  have e2 : (p.take n ++ [x] ++ p.drop (n + 1)).drop (n + 1) = p.drop (n + 1) := by
    rw [show n + 1 = (p.take n ++ [x]).length by simp only [List.length_append, hl, List.length_cons, List.length_nil], List.drop_left]
  show (p.take n ++ [x] ++ p.drop (n + 1)).take n ++ [y] ++ (p.take n ++ [x] ++ p.drop (n + 1)).drop (n + 1) = _
  rw [e1, e2]
theorem repP_self {p : Pipe} {n : Nat} (h : n < p.length) : repP p p[n] n = p := by
  show p.take n ++ [p[n]] ++ p.drop (n + 1) = p
  rw [List.append_assoc, List.singleton_append, ← List.drop_eq_getElem_cons h, List.take_append_drop]
theorem repP_prod {p : Pipe} (hp : p.pos) {s : Step} (hs : s.pos) {n : Nat} (h : n < p.length) (hle : s.per ≤ p[n].per) : (repP p s n).prod ≤ p.prod := by
  have e : p.prod = Pipe.prod (p.take n) * p[n].per * Pipe.prod (p.drop (n + 1)) := by
    have h0 := congrArg Pipe.prod (repP_self h)
    rw [← h0]
    show Pipe.prod (p.take n ++ [p[n]] ++ p.drop (n + 1)) = _
    rw [Pipe.prod_app, Pipe.prod_app]
    simp [Pipe.prod]
  rw [e]
  show Pipe.prod (p.take n ++ [s] ++ p.drop (n + 1)) ≤ _
  rw [Pipe.prod_app, Pipe.prod_app]
  have e2 : Pipe.prod [s] = s.per := by simp [Pipe.prod]
  rw [e2]
  have t1 := Pipe.prod_pos' (p := p.take n) fun t ht => hp t (List.mem_of_mem_take ht)
  have t2 := Pipe.prod_pos' (p := p.drop (n + 1)) fun t ht => hp t (List.mem_of_mem_drop ht)
  exact Int.mul_le_mul_of_nonneg_right (Int.mul_le_mul_of_nonneg_left hle (by omega)) (by omega)
theorem one_ok {s : Step} (h : s.ok) : Pipe.ok [s] := by
  refine ⟨by simp, by simpa using h, ?_⟩
  have := (Step.per_pos h).2
  simp [Pipe.prod]; exact this
theorem rep_one_ok {p : Pipe} (ok : p.ok) {n : Nat} (h : n < p.length) {c : Int} (hc : -1000000000 ≤ c ∧ c ≤ 1000000000) : (repP p (.sc 1 1 c) n).ok := by
  have hs : Step.ok (.sc 1 1 c) := ⟨⟨by decide, by decide⟩, ⟨by decide, by decide⟩, hc⟩
  refine ⟨by rw [repP_len h]; exact ok.1, repP_oks ok.2.1 hs n, Int.le_trans (repP_prod ok.pos hs.pos h ?_) ok.2.2⟩
  exact (Step.per_pos (ok.2.1 _ (List.getElem_mem h))).1
end My

/-! ### the gap of two pipelines: above, equal -/
namespace My
open PySem L2
def gapF (p q : Pipe) (x : Int) : Int := p.val x - q.val x
theorem QP.sub {f g : Int → Int} {L C C' : Int} (h : QP f L C) (h' : QP g L C') : QP (fun x => f x - g x) L (C - C') := fun x => by
  show f (x + L) - g (x + L) = f x - g x + (C - C')
  rw [h, h']; omega
theorem lcm_facts {P P' : Int} (h : 0 < P) (h' : 0 < P') : ∃ L : Int, L = P * P' / gcdI P P' ∧ 0 < L ∧ L / P * P = L ∧ L / P' * P' = L ∧ L ≤ P * P' ∧ 1 ≤ L / P ∧ L / P ≤ P' ∧ 1 ≤ L / P' ∧ L / P' ≤ P := by
  have gp := gcdI_pos (a := P) h'
  have e1 := gcdI_dvd_left (a := P) (b := P') (by omega)
  have e2 := gcdI_dvd_right (a := P) (b := P') (by omega)
  generalize gcdI P P' = g at *
  generalize ha : P / g = a at *
  generalize hb : P' / g = b at *
  have a1 : 1 ≤ a := by
    rcases Int.lt_or_le a 1 with h | h
    · have := Int.mul_nonpos_of_nonneg_of_nonpos (show 0 ≤ g by omega) (show a ≤ 0 by omega); omega
    · exact h
  have b1 : 1 ≤ b := by
    rcases Int.lt_or_le b 1 with h | h
    · have := Int.mul_nonpos_of_nonneg_of_nonpos (show 0 ≤ g by omega) (show b ≤ 0 by omega); omega
    · exact h
  have eL : P * P' / g = P * b := by
    rw [e2, show P * (g * b) = g * (P * b) by rw [← Int.mul_assoc, Int.mul_comm P g, Int.mul_assoc]]
    exact Int.mul_ediv_cancel_left _ (by omega)
  have eL' : P * b = P' * a := by
    rw [e1, e2, Int.mul_assoc, Int.mul_assoc, Int.mul_comm a b]
  have d1 : P * b / P = b := Int.mul_ediv_cancel_left _ (by omega)
  have d2 : P * b / P' = a := by rw [eL']; exact Int.mul_ediv_cancel_left _ (by omega)
  have bl : b ≤ P' := by
    have := Int.mul_le_mul_of_nonneg_right gp (show 0 ≤ b by omega)
    omega
  have al : a ≤ P := by
    have := Int.mul_le_mul_of_nonneg_right gp (show 0 ≤ a by omega)
    omega
  refine ⟨P * b, eL.symm, ?_, by rw [d1, Int.mul_comm], by rw [d2, Int.mul_comm, ← eL'], Int.mul_le_mul_of_nonneg_left bl (by omega), by omega, by omega, by omega, by omega⟩
  have := Int.mul_le_mul h b1 (by omega) (by omega)
  omega
theorem Least.rise_rises {p : Pipe} (h : p.pos) {P R : Int} (hl : Least p.val P R) : R ≤ p.rises := by
  have h1 := (hl.dvd (Pipe.qp h)).2
  have h2 := (hl.dvd (Pipe.qp h)).1
  have h4 := (hl.bounds h).2
  have h5 := Pipe.rises_pos h
  have h6 : 1 ≤ p.prod / P := by
    rcases Int.lt_or_le 0 (p.prod / P) with h | h
    · omega
    · exfalso
      have := Int.mul_le_mul_of_nonneg_left h (show 0 ≤ R by omega)
      omega
  have := Int.mul_le_mul_of_nonneg_left h6 (show 0 ≤ R by omega)
  omega
/-- how large the rises of the two may be -/
def GapB (p q : Pipe) : Prop := q.prod * p.rises < 500000000 ∧ p.prod * q.rises < 500000000
theorem fl_enum {K : PySem.W.Frag} {a : Addr} {xs : List V} {g : TG} {tb : TS} {D : Ends} {σ : St} {H : Hp} (Pv : Nat → St → Hp → Prop) (h0 : Pv 0 σ H) (hl : ∀ i σ H, i ≤ xs.length → Pv i σ H → SqL K H a xs)
    (hs : ∀ (i : Nat) x T σ H, xs[i]? = some x → Pv i σ H → H T = none → g (.ref T) σ (upd H T (.tup [.int (i : Nat), x])) fun σ2 H2 => tb { D with nx := Pv (i + 1), ct := Pv (i + 1), bk := D.nx } σ2 H2) (hd : ∀ σ H, Pv xs.length σ H → D.nx σ H) : FLoop (Ite K a) g tb D σ H := by
  refine ⟨fun i m σ' H' => m = xs.length - i ∧ i ≤ xs.length ∧ Pv i σ' H', ⟨_, rfl, Nat.zero_le _, h0⟩, ?_⟩
  rintro i m σ' H' ⟨rfl, hi, hP⟩
  have hL := hl i σ' H' hi hP
  by_cases hlt : i < xs.length
  · have ex : xs[i]? = some xs[i] := List.getElem?_eq_getElem hlt
    refine .inr ⟨⟨xs, _, hL, ex⟩, Pv (i + 1), fun σ3 H3 h => ⟨xs.length - (i + 1), by omega, rfl, hlt, h⟩, ?_⟩
    rintro v H2 ⟨T, x, rfl, hT, rfl, fx⟩
    have e1 : x = xs[i] := Option.some.inj ((fx _ hL).symm.trans ex)
    subst e1
    exact hs i _ T σ' H' ex hP hT
  · have e : i = xs.length := by omega
    subst e
    exact .inl ⟨⟨xs, hL, Nat.le_refl _⟩, hd σ' H' hP⟩
/-! ### the least x at which a gap is above 0 -/
def AbO (gap : Int → Int) (o : Option Int) : Prop := match o with
  | none => ∀ x, 0 ≤ x → gap x ≤ 0
  | some x => 0 ≤ x ∧ 0 < gap x ∧ ∀ y, 0 ≤ y → y < x → gap y ≤ 0
def AbR (gap : Int → Int) (L : Int) (i : Nat) (o : Option Int) : Prop := match o with
  | none => ∀ x, 0 ≤ x → x % L < i → gap x ≤ 0
  | some x => 0 ≤ x ∧ 0 < gap x ∧ ∀ y, 0 ≤ y → y < x → y % L < i → gap y ≤ 0
theorem AbO.uniq {gap : Int → Int} {o o' : Option Int} (h : AbO gap o) (h' : AbO gap o') : o = o' := by
  cases o with
  | none =>
    cases o' with
    | none => rfl
    | some x => have := h x h'.1; have := h'.2.1; omega
  | some x =>
    cases o' with
    | none => have := h' x h.1; have := h.2.1; omega
    | some y =>
      rcases Int.lt_trichotomy x y with hl | rfl | hl
      · have := h'.2.2 x h.1 hl; have := h.2.1; omega
      · rfl
      · have := h.2.2 y h'.1 hl; have := h'.2.1; omega
theorem AbR.zero {gap : Int → Int} {L : Int} (hL : 0 < L) : AbR gap L 0 none := fun x _ h2 => by
  have := Int.emod_nonneg x (show L ≠ 0 by omega)
  omega
theorem AbR.done {gap : Int → Int} {L : Int} {n : Nat} (hL : 0 < L) (hn : (n : Int) = L) {o : Option Int} (h : AbR gap L n o) : AbO gap o := by
  have hb : ∀ y : Int, y % L < n := fun y => by have := Int.emod_lt_of_pos y hL; omega
  cases o with
  | none => exact fun x h0 => h x h0 (hb x)
  | some x => exact ⟨h.1, h.2.1, fun y h0 h1 => h.2.2 y h0 h1 (hb y)⟩
/-- no candidate at this residue -/
theorem AbR.skip {gap : Int → Int} {L : Int} {i : Nat} {o : Option Int} (h : AbR gap L i o) (hn : ∀ y, 0 ≤ y → y % L = i → gap y ≤ 0) : AbR gap L (i + 1) o := by
  cases o with
  | none =>
    intro x h0 h1
    by_cases e : x % L = i
    · exact hn x h0 e
    · exact h x h0 (by push_cast at h1; omega)
  | some x =>
    refine ⟨h.1, h.2.1, fun y h0 h1 h2 => ?_⟩
    by_cases e : y % L = i
    · exact hn y h0 e
    · exact h.2.2 y h0 h1 (by push_cast at h2; omega)
/-- a candidate that does not win -/
theorem AbR.keep {gap : Int → Int} {L : Int} {i : Nat} {x z : Int} (h : AbR gap L i (some x)) (hz : ∀ y, 0 ≤ y → y < z → y % L = i → gap y ≤ 0) (hle : x ≤ z) : AbR gap L (i + 1) (some x) := by
  refine ⟨h.1, h.2.1, fun y h0 h1 h2 => ?_⟩
  by_cases e : y % L = i
  · exact hz y h0 (by omega) e
  · exact h.2.2 y h0 h1 (by push_cast at h2; omega)
theorem AbR.win {gap : Int → Int} {L : Int} {i : Nat} {o : Option Int} {z : Int} (h : AbR gap L i o) (z0 : 0 ≤ z) (zg : 0 < gap z) (hz : ∀ y, 0 ≤ y → y < z → y % L = i → gap y ≤ 0) (hle : ∀ x, o = some x → z < x) : AbR gap L (i + 1) (some z) := by
  refine ⟨z0, zg, fun y h0 h1 h2 => ?_⟩
  by_cases e : y % L = i
  · exact hz y h0 h1 e
  · have h3 : y % L < i := by push_cast at h2; omega
    cases o with
    | none => exact h y h0 h3
    | some x => exact h.2.2 y h0 (by have := hle x rfl; omega) h3
theorem gap_at {gap : Int → Int} {L C : Int} (hq : QP gap L C) {y : Int} {i : Nat} (e : y % L = i) : gap y = gap i + y / L * C ∧ y = i + y / L * L := by
  have h := hq.at y
  rw [e] at h
  refine ⟨h, ?_⟩
  have := Int.emod_add_mul_ediv y L
  rw [e, Int.mul_comm] at this
  omega
/-- neither the gap nor the change is above 0 -/
theorem ab_none {gap : Int → Int} {L C : Int} (hL : 0 < L) (hq : QP gap L C) {i : Nat} (h1 : gap i ≤ 0) (h2 : C ≤ 0) : ∀ y, 0 ≤ y → y % L = i → gap y ≤ 0 := by
  intro y h0 e
  have hg := (gap_at hq e).1
  have hd : 0 ≤ y / L := Int.ediv_nonneg h0 (by omega)
  have := Int.mul_nonpos_of_nonneg_of_nonpos hd h2
  omega
theorem ab_zero {gap : Int → Int} {L C : Int} (hL : 0 < L) (hq : QP gap L C) {i : Nat} : ∀ y, 0 ≤ y → y < (i : Int) + 0 * L → y % L = i → gap y ≤ 0 := by
  intro y h0 h1 e
  have hg := (gap_at hq e).2
  have hd : 0 ≤ y / L := Int.ediv_nonneg h0 (by omega)
  have := Int.mul_nonneg hd (show 0 ≤ L by omega)
  omega
theorem ab_turn {gap : Int → Int} {L C : Int} (hL : 0 < L) (hq : QP gap L C) {i : Nat} (h1 : gap i ≤ 0) (h2 : 0 < C) :
    0 ≤ (i : Int) + ((0 - gap i) / C + 1) * L ∧ 0 < gap ((i : Int) + ((0 - gap i) / C + 1) * L) ∧ ∀ y, 0 ≤ y → y < (i : Int) + ((0 - gap i) / C + 1) * L → y % L = i → gap y ≤ 0 := by
  have d1 := Int.mul_ediv_add_emod (0 - gap i) C
  have d2 := Int.emod_nonneg (0 - gap i) (show C ≠ 0 by omega)
  have d3 := Int.emod_lt_of_pos (0 - gap i) h2
  have d4 : 0 ≤ (0 - gap i) / C := Int.ediv_nonneg (by omega) (by omega)
  generalize (0 - gap (i : Int)) / C = t at *
  refine ⟨?_, ?_, ?_⟩
  · have := Int.mul_nonneg (show 0 ≤ t + 1 by omega) (show 0 ≤ L by omega)
    omega
  · rw [hq.mul (t + 1) i, Int.add_mul, Int.mul_comm t C]; omega
  · intro y h0 h3 e
    obtain ⟨e1, e2⟩ := gap_at hq e
    have hs : y / L < t + 1 := by
      rcases Int.lt_or_le (y / L) (t + 1) with h | h
      · exact h
      · have := Int.mul_le_mul_of_nonneg_right h (show 0 ≤ L by omega)
        omega
    have := Int.mul_le_mul_of_nonneg_right (show y / L ≤ t by omega) (show 0 ≤ C by omega)
    rw [Int.mul_comm t C] at this
    omega
/-! ### counting the arguments with equal values -/
def eqAt (p q : Pipe) (x : Int) : Bool := decide (gapF p q x = 0)
def cntE (p q : Pipe) (lo hi : Int) : Int := cntW (eqAt p q) lo (hi - lo + 1).toNat
def linC (gap : Int → Int) (L C lo hi r : Int) : Int := if (gap r).fmod C = 0 then (if lo ≤ r - (gap r).fdiv C * L ∧ r - (gap r).fdiv C * L ≤ hi then 1 else 0) else 0
theorem lin_hit {gap : Int → Int} {L C : Int} (hL : 0 < L) (hq : QP gap L C) (hC : C ≠ 0) (z r : Int) (h0 : 0 ≤ r) (h1 : r < L) : ((gap r).fmod C = 0 ∧ r - (gap r).fdiv C * L = z) ↔ (z % L = r ∧ gap z = 0) := by
  have e := Int.fmod_add_mul_fdiv (gap r) C
  constructor
  · rintro ⟨h2, h3⟩
    rw [h2] at e
    have ez : z = r + -((gap r).fdiv C) * L := by rw [Int.neg_mul]; omega
    constructor
    · rw [ez, Int.mul_comm, Int.add_mul_emod_self_left, Int.emod_eq_of_lt h0 h1]
    · rw [ez, hq.mul, Int.neg_mul, Int.mul_comm]; omega
  · rintro ⟨h2, h3⟩
    have hg := hq.at z
    rw [h2, h3] at hg
    have e2 := Int.emod_add_mul_ediv z L
    rw [h2] at e2
    have hgr : gap r = C * (-(z / L)) := by rw [Int.mul_neg, Int.mul_comm]; omega
    have hm : (gap r).fmod C = 0 := by rw [hgr]; exact Int.mul_fmod_right _ _
    refine ⟨hm, ?_⟩
    rw [hm] at e
    have : (gap r).fdiv C = -(z / L) := Int.eq_of_mul_eq_mul_left hC (by omega)
    rw [this, Int.neg_mul, Int.mul_comm]
    omega
theorem cnt_lin {gap : Int → Int} {L C : Int} (hL : 0 < L) (hq : QP gap L C) (hC : C ≠ 0) (lo : Int) : ∀ n : Nat, sumR L.toNat (fun r => linC gap L C lo (lo + n - 1) r) = cntW (fun x => decide (gap x = 0)) lo n
  | 0 => by
    rw [cntW, show sumR L.toNat (fun r => linC gap L C lo (lo + ((0 : Nat) : Int) - 1) r) = sumR L.toNat (fun _ => 0) from ?_, sumR_zero]
    apply sumR_congr
    intro i hi
    unfold linC
    split
    · rw [if_neg (by omega)]
    · rfl
  | n + 1 => by
    rw [cntW, ← cnt_lin hL hq hC lo n]
    have z0 := Int.emod_nonneg (lo + n) (show L ≠ 0 by omega)
    have z1 := Int.emod_lt_of_pos (lo + n) hL
    have e2 : ∀ c : Int, c = sumR L.toNat (fun r => if (lo + n) % L = r then c else 0) := by
      intro c
      rw [sumR_one _ _ _ z0, if_pos (by omega)]
    rw [e2 (if decide (gap (lo + n) = 0) = true then (1 : Int) else 0), ← sumR_add]
    apply sumR_congr
    intro i hi
    have hh := lin_hit hL hq hC (lo + n) i (by omega) (by omega)
    simp only [decide_eq_true_eq]
    unfold linC
    by_cases h1 : (gap i).fmod C = 0
    · rw [if_pos h1, if_pos h1]
      by_cases h2 : (i : Int) - (gap i).fdiv C * L = lo + n
      · obtain ⟨h3, h4⟩ := hh.mp ⟨h1, h2⟩
        rw [if_pos (by push_cast; omega), if_neg (by omega), if_pos h3, if_pos h4]; rfl
      · have : ((lo + (n : Int)) % L = i → (if gap (lo + n) = 0 then (1 : Int) else 0) = 0) := fun h3 => if_neg fun h4 => h2 (hh.mpr ⟨h3, h4⟩).2
        by_cases h3 : (lo + (n : Int)) % L = i
        · rw [if_pos h3, this h3]
          by_cases h5 : lo ≤ (i : Int) - (gap i).fdiv C * L ∧ (i : Int) - (gap i).fdiv C * L ≤ lo + n - 1
          · rw [if_pos (by push_cast; omega), if_pos h5]; rfl
          · rw [if_neg (by push_cast; omega), if_neg h5]; rfl
        · rw [if_neg h3]
          by_cases h5 : lo ≤ (i : Int) - (gap i).fdiv C * L ∧ (i : Int) - (gap i).fdiv C * L ≤ lo + n - 1
          · rw [if_pos (by push_cast; omega), if_pos h5]; rfl
          · rw [if_neg (by push_cast; omega), if_neg h5]; rfl
    · rw [if_neg h1, if_neg h1]
      have : ((lo + (n : Int)) % L = i → (if gap (lo + n) = 0 then (1 : Int) else 0) = 0) := fun h3 => if_neg fun h4 => h1 (hh.mpr ⟨h3, h4⟩).1
      by_cases h3 : (lo + (n : Int)) % L = i
      · rw [if_pos h3, this h3]; rfl
      · rw [if_neg h3]; rfl
end My

namespace My
open PySem L2
theorem fl_pipesK {K : PySem.W.Frag} {a : Addr} {xs : List V} {g : TG} {tb : TS} {D : Ends} {σ : St} {H : Hp} (C : Pipe → Prop) (hS : SqT K H a xs) (hall : ∀ x ∈ xs, ∃ c p, x = .ref c ∧ PipeAt K H x p ∧ C p) (Pv : St → Hp → Prop) (h0 : Pv σ H) (hk : ∀ σ' H', Pv σ' H' → TKeep K H H')
    (hs : ∀ c p σ' H', PipeAt K H' (.ref c) p → C p → Pv σ' H' → g (.ref c) σ' H' fun σ2 H2 => tb { D with nx := Pv, ct := Pv, bk := D.nx } σ2 H2)
    (hd : ∀ σ' H', Pv σ' H' → D.nx σ' H') : FLoop (Itt K a) g tb D σ H := by
  refine fl_tup (xs := xs) (fun _ σ' H' => Pv σ' H') h0 (fun _ _ _ _ h => hk _ _ h _ _ hS) (fun i x σ' H' hx h => ?_) (fun σ' H' h => hd _ _ h)
  obtain ⟨c, p, rfl, hp, hc⟩ := hall x (List.mem_of_getElem? hx)
  exact hs c p σ' H' (PipeAt.keep (hk _ _ h) hp) hc h
section
variable {K : PySem.W.Frag} {σ : St} {H : Hp} {Q : VK} {te : TE} {tt : TT}
theorem ll_enumF {i0 j0 : Nat} {a : Addr} {n : Nat} (f : Nat → Int) (r : Nat → V) (c : Nat → Bool) (hx : SqL K H a (((List.range n).map f).map V.int)) (hsz : n < 16777216)
    (hw : ∀ x y, wipe (((wipe σ [i0, j0]).set i0 (some x)).set j0 (some y)) [i0, j0] = wipe σ [i0, j0])
    (ht : ∀ (i : Nat) (H' : Hp) (Q' : Bool → Hp → Prop), i < n → Same H H' → (∀ H4, Same H' H4 → Q' (c i) H4) → tt (((wipe σ [i0, j0]).set i0 (some (.int (i : Nat)))).set j0 (some (.int (f i)))) H' Q')
    (hs : ∀ (i : Nat) (H' : Hp) (Q' : VK), i < n → Same H H' → (∀ H4, Same H' H4 → Q' (r i) H4) → te (((wipe σ [i0, j0]).set i0 (some (.int (i : Nat)))).set j0 (some (.int (f i)))) H' Q')
    (hd : ∀ D H', Same H H' → H' D = some (.lst (((List.range n).filter c).map r)) → H D = none → Q (.ref D) H') : LLoop (Ite K a) (gTup K 2 (gCons (gName i0) (gCons (gName j0) gNil))) tt te [i0, j0] σ H Q := by
  intro D hD
  refine ⟨fun i m H' => m = n - i ∧ i ≤ n ∧ Same H H' ∧ H' D = some (.lst (((List.range i).filter c).map r)), ⟨_, rfl, Nat.zero_le _, Same.up (Same.refl _) hD, upd_same⟩, ?_⟩
  rintro i m H' ⟨rfl, hi, hS, hl⟩
  have hx' := SqL.same hS hx
  by_cases hlt : i < n
  · have ex : (((List.range n).map f).map V.int)[i]? = some (.int (f i)) := by rw [List.getElem?_map, List.getElem?_map, List.getElem?_range hlt]; rfl
    refine .inr ⟨⟨_, _, hx', ex⟩, fun H3 => Same H H3 ∧ H3 D = some (.lst (((List.range (i + 1)).filter c).map r)), fun H3 h => ⟨n - (i + 1), by omega, rfl, hlt, h.1, h.2⟩, ?_⟩
    rintro v H2 ⟨T, x, rfl, hT, rfl, fx⟩
    have e1 : x = .int (f i) := Option.some.inj ((fx _ hx').symm.trans ex)
    subst e1
    refine ⟨T, _, rfl, SqT.new, rfl, _, _, rfl, _, _, rfl, rfl, hw _ _, ?_⟩
    have hS2 := Same.up hS hT (o := .tup [.int (i : Nat), .int (f i)])
    refine ht i _ _ hlt hS2 fun H3 h3 => ?_
    have e : (List.range (i + 1)).filter c = (List.range i).filter c ++ if c i = true then [i] else [] := by
      rw [List.range_succ, List.filter_append]
      by_cases hc : c i = true
      · simp [hc]
      · simp [hc]
    by_cases hc : c i = true
    · rw [if_pos hc]
      refine hs i H3 _ hlt (hS2.trans h3) fun H4 h4 => ⟨_, h4 _ _ (h3 _ _ (HAt.hu hT hl)), ?_, Same.upN ((hS2.trans h3).trans h4) hD, ?_⟩
      · have := List.length_filter_le c (List.range i)
        rw [List.length_range] at this
        rw [List.length_map, PySem.sizeLine_eq]; omega
      · rw [upd_same, e, if_pos hc, List.map_append]; rfl
    · rw [if_neg hc]
      exact ⟨hS2.trans h3, by rw [e, if_neg hc, List.append_nil]; exact h3 _ _ (HAt.hu hT hl)⟩
  · have e : i = n := by omega
    subst e
    exact .inl ⟨⟨_, hx', by simp⟩, hd D H' hS hl hD⟩
theorem r_neNilI {a b : Addr} {ns : List Int} (h : SqL K H a (ns.map V.int)) (h' : SqL K H b []) (q : Q (.bl (!decide (ns = []))) H) : rNeD K (.ref a) (.ref b) H Q :=
  r_neD (dpInts h) (.lst h' .nil) (shaped_ints ns) rfl (by rw [show PyData.eqv (.list (ns.map PyData.int)) (.list []) = decide (ns = []) from by cases ns <;> simp [PyData.eqv, PyData.eqvAll]]; exact q)
theorem r_ixI {a : Addr} {n : Int} {ns : List Int} (h : SqL K H a ((n :: ns).map V.int)) (q : Q (.int n) H) : rIxL K (.ref a) (.int 0) H Q := r_ixL h at0 q
end
theorem due_head {gap : Int → Int} {o : Option Int} (h : AbO gap o) (n : Nat) : match (List.range n).filter (fun i : Nat => decide (0 < gap i)) with
    | [] => ∀ z, o = some z → (n : Int) ≤ z
    | d :: _ => o = some (d : Int) := by
  cases hD : (List.range n).filter (fun i : Nat => decide (0 < gap i)) with
  | nil =>
    intro z hz
    subst hz
    rcases Int.lt_or_le z n with hl | hl
    · exfalso
      rw [List.filter_eq_nil_iff] at hD
      have := hD z.toNat (List.mem_range.mpr (by have := h.1; omega))
      rw [show ((z.toNat : Nat) : Int) = z by have := h.1; omega] at this
      exact this (decide_eq_true h.2.1)
    · exact hl
  | cons d r =>
    have e1 : (List.range n).find? (fun i : Nat => decide (0 < gap i)) = some d := by rw [← List.head?_filter, hD]; rfl
    rw [List.find?_range_eq_some] at e1
    obtain ⟨e2, _, e3⟩ := e1
    refine h.uniq (o' := some (d : Int)) ⟨by omega, of_decide_eq_true e2, fun y h0 h1 => ?_⟩
    have := e3 y.toNat (by omega)
    rw [show ((y.toNat : Nat) : Int) = y by omega] at this
    simp at this
    omega
theorem cntW_filter (good : Int → Bool) (s : Int) : ∀ n : Nat, cntW good s n = (((List.range n).filter fun i : Nat => good (s + i)).length : Int)
  | 0 => rfl
  | n + 1 => by
    rw [cntW, cntW_filter good s n, List.range_succ, List.filter_append, List.length_append]
    by_cases h : good (s + n) = true
    · simp [h]
    · simp [h]
instance (p q : Pipe) : Decidable (GapB p q) := by unfold GapB; infer_instance
end My

/-! ### counts: shifted, repeated, added -/
namespace My
open PySem L2
theorem cntW_all {good : Int → Bool} {s : Int} : ∀ {n : Nat}, (∀ i : Nat, i < n → good (s + i) = true) → cntW good s n = n
  | 0, _ => rfl
  | n + 1, e => by rw [cntW, cntW_all fun i hi => e i (by omega), e n (by omega)]; push_cast; rfl
theorem cntW_pos {good : Int → Bool} {s : Int} : ∀ {n : Nat} (i : Nat), i < n → good (s + i) = true → 1 ≤ cntW good s n
  | n + 1, i, hi, h => by
    rw [cntW]
    have h0 := cntW_nn good s n
    by_cases e : i = n
    · subst e; rw [if_pos h]; omega
    · have := cntW_pos (n := n) i (by omega) h
      split <;> omega
theorem cntW_next (g : Int → Bool) (s : Int) : ∀ n : Nat, cntW g (s + 1) n + (if g s = true then 1 else 0) = cntW g s n + if g (s + n) = true then 1 else 0
  | 0 => by rw [cntW, cntW, show s + ((0 : Nat) : Int) = s by omega]
  | n + 1 => by
    have ih := cntW_next g s n
    rw [cntW, cntW, show s + 1 + (n : Int) = s + ((n + 1 : Nat) : Int) by push_cast; omega]
    omega
theorem cntW_any {g : Int → Bool} {R : Nat} (hg : ∀ x, g (x + R) = g x) (s : Int) : cntW g s R = cntW g 0 R := by
  have step : ∀ s, cntW g (s + 1) R = cntW g s R := fun s => by have := cntW_next g s R; rw [hg] at this; omega
  have up : ∀ n : Nat, cntW g n R = cntW g 0 R := by
    intro n
    induction n with
    | zero => rfl
    | succ n ih => push_cast; rw [step, ih]
  have dn : ∀ n : Nat, cntW g (-(n : Int)) R = cntW g 0 R := by
    intro n
    induction n with
    | zero => rfl
    | succ n ih =>
      have := step (-((n : Int) + 1))
      rw [show -((n : Int) + 1) + 1 = -(n : Int) by omega, ih] at this
      push_cast
      exact this.symm
  rcases Int.le_total 0 s with h | h
  · obtain ⟨n, rfl⟩ := Int.eq_ofNat_of_zero_le h; exact up n
  · obtain ⟨n, hn⟩ := Int.eq_ofNat_of_zero_le (show 0 ≤ -s by omega)
    rw [show s = -(n : Int) by omega]; exact dn n
theorem cntW_times {g : Int → Bool} {R : Nat} (hg : ∀ x, g (x + R) = g x) (s : Int) : ∀ t : Nat, cntW g s (t * R) = t * cntW g 0 R
  | 0 => by rw [Nat.zero_mul, cntW]; simp
  | t + 1 => by
    rw [Nat.add_mul, Nat.one_mul, cntW_add, cntW_times hg s t, cntW_any hg (s + ((t * R : Nat) : Int))]
    push_cast
    rw [Int.add_mul, Int.one_mul]
def attR (p : Pipe) (rep : Bool) : Int → Bool := if rep = true then att2 p else att p
theorem att_per {p : Pipe} (hp : p.pos) {P R : Int} (hq : QP p.val P R) (rep : Bool) (y t : Int) : attR p rep (y + t * R) = attR p rep y := by
  have e1 := first_shift hp hq y t
  have e2 := first_shift hp hq (y + 1) t
  rw [show y + 1 + t * R = y + t * R + 1 by omega] at e2
  unfold attR
  cases rep
  · simp only [Bool.false_eq_true, if_false]
    unfold att
    rw [e1, e2]
    exact decide_eq_decide.mpr (by omega)
  · simp only [if_true]
    unfold att2
    rw [e1, e2]
    exact decide_eq_decide.mpr (by omega)
theorem cntV_att (p : Pipe) (rep : Bool) (lo hi : Int) : cntV p rep lo hi = cntW (attR p rep) lo (hi - lo + 1).toNat := rfl
theorem cntV_add (p : Pipe) (rep : Bool) {lo mid hi : Int} (h : lo ≤ mid + 1) (h' : mid ≤ hi) : cntV p rep lo hi = cntV p rep lo mid + cntV p rep (mid + 1) hi := by
  rw [cntV_att, cntV_att, cntV_att, show (hi - lo + 1).toNat = (mid - lo + 1).toNat + (hi - (mid + 1) + 1).toNat by omega, cntW_add, show lo + (((mid - lo + 1).toNat : Nat) : Int) = mid + 1 by omega]
theorem cntV_shift {p : Pipe} (hp : p.pos) {P R : Int} (hq : QP p.val P R) (rep : Bool) (lo hi : Int) : cntV p rep (lo + R) (hi + R) = cntV p rep lo hi := by
  rw [cntV_att, cntV_att, show hi + R - (lo + R) + 1 = hi - lo + 1 by omega]
  exact cntW_shift _ _ _ _ (fun x => by have := att_per hp hq rep x 1; rwa [Int.one_mul] at this) _
theorem cntV_times {p : Pipe} (hp : p.pos) {P R : Int} (hq : QP p.val P R) (hR : 1 ≤ R) (rep : Bool) (lo m : Int) {t : Int} (ht : 0 ≤ t) : cntV p rep m (m + t * R - 1) = t * cntV p rep lo (lo + R - 1) := by
  have hg : ∀ x, attR p rep (x + (R.toNat : Nat)) = attR p rep x := fun x => by
    have := att_per hp hq rep x 1
    rwa [Int.one_mul, show R = ((R.toNat : Nat) : Int) by omega] at this
  obtain ⟨n, rfl⟩ := Int.eq_ofNat_of_zero_le ht
  rw [cntV_att, cntV_att, show (lo + R - 1 - lo + 1).toNat = R.toNat by omega, cntW_any hg]
  have e : (m + (n : Int) * R - 1 - m + 1).toNat = n * R.toNat := by
    have : (n : Int) * R = ((n * R.toNat : Nat) : Int) := by push_cast; rw [Int.toNat_of_nonneg (by omega)]
    omega
  rw [e, cntW_times hg]
theorem no_jump {p : Pipe} (hp : p.pos) (s : Int) : ∀ n : Nat, cntW (jmp p) s n = 0 → p.val (s + n) = p.val s
  | 0, _ => by rw [show s + ((0 : Nat) : Int) = s by omega]
  | n + 1, h => by
    rw [cntW] at h
    have h0 := cntW_nn (jmp p) s n
    have hj : ¬ jmp p (s + n) = true := fun z => by rw [if_pos z] at h; omega
    rw [if_neg hj] at h
    have ih := no_jump hp s n (by omega)
    have hm := Pipe.mono hp (show s + (n : Int) ≤ s + n + 1 by omega)
    unfold jmp at hj
    rw [decide_eq_true_eq] at hj
    rw [show s + ((n + 1 : Nat) : Int) = s + n + 1 by push_cast; omega]
    omega
theorem block_jmp {p : Pipe} (hp : p.pos) {P R : Int} (hl : Least p.val P R) (lo : Int) : cntV p false lo (lo + R - 1) = cntW (jmp p) (p.first lo + -1) P.toNat := by
  have hR := (hl.bounds hp).2
  have b := block_sum hp (jmp p) (att p) (-1) (jmp_block hp) lo R.toNat
  rw [show ((R.toNat : Nat) : Int) = R by omega] at b
  have e := first_shift hp hl.qp lo 1
  rw [Int.one_mul, Int.one_mul] at e
  rw [e, show p.first lo + P - p.first lo = P by omega] at b
  rw [cntV_att, show (lo + R - 1 - lo + 1).toNat = R.toNat by omega, b]
  rfl
theorem block_bounds {p : Pipe} (hp : p.pos) {P R : Int} (hl : Least p.val P R) (lo : Int) : 1 ≤ cntV p false lo (lo + R - 1) ∧ cntV p false lo (lo + R - 1) ≤ P ∧ cntV p false lo (lo + R - 1) ≤ R := by
  have hP := hl.pos
  have hR := (hl.bounds hp).2
  have e := block_jmp hp hl lo
  have n1 := cntW_nn (jmp p) (p.first lo + -1) P.toNat
  have n2 := cntW_nn (attR p false) lo R.toNat
  have e2 : cntV p false lo (lo + R - 1) = cntW (attR p false) lo R.toNat := by rw [cntV_att, show (lo + R - 1 - lo + 1).toNat = R.toNat by omega]
  refine ⟨?_, by omega, by omega⟩
  rcases Int.lt_or_le 0 (cntW (jmp p) (p.first lo + -1) P.toNat) with h | h
  · omega
  · exfalso
    have := no_jump hp (p.first lo + -1) P.toNat (by omega)
    rw [show p.first lo + -1 + ((P.toNat : Nat) : Int) = p.first lo + -1 + P by omega, hl.qp] at this
    omega
def inj (p : Pipe) : Prop := ∀ x, p.val x ≠ p.val (x + 1)
theorem hit_none {p : Pipe} {P R : Int} (hl : Least p.val P R) : hitL p.val (ordL P.toNat) = none ↔ inj p := by
  unfold hitL
  rw [List.find?_eq_none]
  constructor
  · intro h x hx
    have h0 := Int.emod_nonneg x (show P ≠ 0 by have := hl.pos; omega)
    have h1 := Int.emod_lt_of_pos x hl.pos
    have := h (x % P) (ordL_mem _ _ (by omega) (by omega))
    simp only [decide_eq_true_eq] at this
    have := diff_at hl.qp x
    omega
  · intro h x _
    simp only [decide_eq_true_eq]
    exact h x
theorem inj_block {p : Pipe} (hp : p.pos) (h : inj p) {P R : Int} (hl : Least p.val P R) (lo : Int) : cntV p false lo (lo + R - 1) = P := by
  rw [block_jmp hp hl lo, cntW_all]
  · have := hl.pos; omega
  · intro i _
    have h1 := h (p.first lo + -1 + i)
    have h2 := Pipe.mono hp (show p.first lo + -1 + (i : Int) ≤ p.first lo + -1 + i + 1 by omega)
    exact decide_eq_true (by omega)
theorem rep_zero {p : Pipe} (hp : p.pos) {P R M : Int} (hl : Least p.val P R) (hM : R ≤ M) : cntV p true 0 M = 0 ↔ inj p := by
  have hR := (hl.bounds hp).2
  constructor
  · intro h x hx
    have a1 := (Pipe.gal hp (x := x) (y := p.val x)).mp (Int.le_refl _)
    have a2 : ¬ (p.first (p.val x + 1) ≤ x + 1) := fun z => by have := (Pipe.gal hp).mpr z; omega
    have h2 : attR p true (p.val x) = true := decide_eq_true (by omega)
    have h3 := att_per hp hl.qp true (p.val x % R) (p.val x / R)
    rw [Int.mul_comm (p.val x / R) R, Int.emod_add_mul_ediv, h2] at h3
    have z0 := Int.emod_nonneg (p.val x) (show R ≠ 0 by omega)
    have z1 := Int.emod_lt_of_pos (p.val x) (show 0 < R by omega)
    have := cntW_pos (good := attR p true) (s := 0) (n := (M - 0 + 1).toNat) (p.val x % R).toNat (by omega) (by rw [show (0 : Int) + (((p.val x % R).toNat : Nat) : Int) = p.val x % R by omega]; exact h3.symm)
    rw [← cntV_att] at this
    omega
  · intro h
    rw [cntV_att]
    apply cntW_zero
    intro i _
    show att2 p _ = false
    unfold att2
    refine decide_eq_false fun hc => ?_
    have e1 := in_block hp (y := 0 + (i : Int)) (x := p.first (0 + i)) (Int.le_refl _) (by omega)
    have e2 := in_block hp (y := 0 + (i : Int)) (x := p.first (0 + i) + 1) (by omega) hc
    exact h _ (by rw [e1, e2])
theorem cntV_one (p : Pipe) (y : Int) : cntV p false y y = if p.first y ≤ p.last y then 1 else 0 := by
  rw [cntV_att, show (y - y + 1).toNat = 1 by omega]
  show (0 : Int) + (if att p (y + ((0 : Nat) : Int)) = true then 1 else 0) = _
  rw [show y + ((0 : Nat) : Int) = y by omega]
  unfold att Pipe.last
  by_cases h : p.first y < p.first (y + 1)
  · rw [if_pos (decide_eq_true h), if_pos (by omega)]; rfl
  · rw [if_neg (by simpa using h), if_neg (by omega)]; rfl
theorem Can.cal {P : Program} {w : World} {K : PySem.W.Frag} {mg : Str → Option Value} {base : Heap} {k : Nat} {x : Str} {ps : List Str} {sp : Sp} (C : Can P w K mg base k x ps sp) : ∃ f, mg x = some (.ref f) ∧ C8.CalAt P w K mg base k f sp := by
  obtain ⟨f, fd, F, b, m, kp⟩ := C.ex
  exact ⟨f, m, ⟨fd, ps, F, kp, b⟩⟩
theorem pe_gref {X : Cx} {x : Str} {f : Addr} {pos : Pos} (hg : Gl X x) (h : X.mg x = some (.ref f)) (hd : (x == ("__debug__" : Str)) = false := by decide) : PE X (.Name x pos) (tC (.ref f)) := pe_glob hg h rfl hd
section
variable {σ : St} {H : Hp} {Q : VK}
theorem r_cv1 {i : Nat} {f1 f2 : Addr} {sp1 sp2 : Sp} {t : TA} (e : σ[i]? = some (some (.ref f1))) (h : t σ H fun vs H1 => sp1 vs H1 Q E0) : C8.tCallV i f1 f2 sp1 sp2 t σ H Q := .inl ⟨e, h⟩
theorem r_cv2 {i : Nat} {f1 f2 : Addr} {sp1 sp2 : Sp} {t : TA} (e : σ[i]? = some (some (.ref f2))) (h : t σ H fun vs H1 => sp2 vs H1 Q E0) : C8.tCallV i f1 f2 sp1 sp2 t σ H Q := .inr ⟨e, h⟩
end
end My

namespace My
open PySem L2
/-! ### list(range(a, b)) -/
def nRg2 (x y : V) (H : Hp) (Q : VK) : Prop := ∃ i j, x = .int i ∧ y = .int j ∧ RgOk i j ∧ ∀ q, H q = none → Q (.ref q) (upd H q (.lst (rgV i j)))
def rgI (a b : Int) : List Int := (List.range (b - a).toNat).map fun (i : Nat) => a + (i : Int)
theorem rgI_len (a b : Int) : (rgI a b).length = (b - a).toNat := by simp [rgI]
theorem rgI_mem {a b x : Int} (h : x ∈ rgI a b) : a ≤ x ∧ x < b := by
  unfold rgI at h
  obtain ⟨i, hi, rfl⟩ := List.mem_map.mp h
  have := List.mem_range.mp hi
  omega
section
variable {K : PySem.W.Frag} {σ : St} {H : Hp} {Q : VK} {ta tb : TE}
theorem r_lstRg (h : ta σ H fun x H1 => tb σ H1 fun y H2 => nRg2 x y H2 Q) : tLstRg (tRg2 ta tb) σ H Q := h
theorem r_rg2 {i j : Int} (ok : -4611686018427387904 ≤ i ∧ i < 4611686018427387904 ∧ -4611686018427387904 ≤ j ∧ j < 4611686018427387904 ∧ (j - i).toNat ≤ 16777216) (q : ∀ q, H q = none → Q (.ref q) (upd H q (.lst ((rgI i j).map V.int)))) : nRg2 (.int i) (.int j) H Q :=
  ⟨i, j, rfl, rfl, ok, fun p hp => by
    have e : rgV i j = (rgI i j).map V.int := by unfold rgV rgI; rw [List.map_map]; rfl
    rw [e]; exact q p hp⟩
theorem r_slP5 {a : Addr} {p : Pipe} (h : PipeAt K H (.ref a) p) (q : ∀ c H', Same H H' → PipeAt K H' (.ref c) (p.take 5) → Q (.ref c) H') : rSlA K (.ref a) none (some 5) H Q := r_slPto (n := 5) h q
theorem ll_intF {te : TE} {tt : TT} {i0 : Nat} {a : Addr} {ns : List Int} (f : Int → V) (c : Int → Bool) (hS : SqL K H a (ns.map V.int)) (hsz : ns.length < 16777216) (hw : ∀ x, wipe ((wipe σ [i0]).set i0 (some x)) [i0] = wipe σ [i0])
    (ht : ∀ (x : Int) (H' : Hp) (Q' : Bool → Hp → Prop), x ∈ ns → Same H H' → (∀ H4, Same H' H4 → Q' (c x) H4) → tt ((wipe σ [i0]).set i0 (some (.int x))) H' Q')
    (hs : ∀ (x : Int) (H' : Hp) (Q' : VK), x ∈ ns → Same H H' → (∀ H4, Same H' H4 → Q' (f x) H4) → te ((wipe σ [i0]).set i0 (some (.int x))) H' Q')
    (hd : ∀ D H', Same H H' → H' D = some (.lst ((ns.filter c).map f)) → H D = none → Q (.ref D) H') : LLoop (Itl K a) (gName i0) tt te [i0] σ H Q := by
  refine fun D hD => lc_list (K := K) (a := a) (xs := ns.map V.int) (fun i H' => Same H H' ∧ H' D = some (.lst (((ns.take i).filter c).map f))) ⟨Same.up (Same.refl _) hD, upd_same⟩ (fun i H' _ h => SqL.same h.1 hS) (fun i xv H' hxi h => ?_) (fun H' h => ?_)
  · obtain ⟨h1, h2⟩ := h
    rw [List.getElem?_map, Option.map_eq_some_iff] at hxi
    obtain ⟨x, ex, rfl⟩ := hxi
    have hm : x ∈ ns := List.mem_of_getElem? ex
    refine ⟨hw _, ?_⟩
    refine ht x H' _ hm h1 fun H3 h3 => ?_
    have e : (ns.take (i + 1)).filter c = (ns.take i).filter c ++ if c x = true then [x] else [] := by
      rw [take_succ_of ex, List.filter_append]
      by_cases hc : c x = true
      · simp [hc]
      · simp [hc]
    by_cases hc : c x = true
    · rw [if_pos hc]
      refine hs x H3 _ hm (h1.trans h3) fun H4 h4 => ⟨_, h4 _ _ (h3 _ _ h2), ?_, Same.upN ((h1.trans h3).trans h4) hD, ?_⟩
      · have l1 := List.length_filter_le c (ns.take i)
        have l2 := List.length_take_le' i ns
        rw [List.length_map, PySem.sizeLine_eq]; omega
      · rw [upd_same, e, if_pos hc, List.map_append]; rfl
    · rw [if_neg hc]
      exact ⟨h1.trans h3, by rw [e, if_neg hc, List.append_nil]; exact h3 _ _ h2⟩
  · obtain ⟨h1, h2⟩ := h
    rw [List.length_map, List.take_length] at h2
    exact hd D H' h1 h2 hD
end
/-! ### the order of two pipelines over many periods -/
theorem gap_qp {p q : Pipe} {P R P' R' : Int} (h : QP p.val P R) (h' : QP q.val P' R') : QP (gapF p q) (P * P') (R * P' - R' * P) := by
  have a1 := h.mul P'
  have a2 := h'.mul P
  rw [Int.mul_comm P' P, Int.mul_comm P' R] at a1
  rw [Int.mul_comm P R'] at a2
  exact a1.sub a2
theorem ab_none_C {gap : Int → Int} {L C : Int} (hL : 0 < L) (hq : QP gap L C) (h : AbO gap none) : C ≤ 0 := by
  rcases Int.lt_or_le 0 C with hc | hc
  · exfalso
    have hh : ∀ x, 0 ≤ x → gap x ≤ 0 := h
    have := hq.mul (1 - gap 0) 0
    have h0 := hh 0 (Int.le_refl _)
    have h1 := hh (0 + (1 - gap 0) * L) (by have := Int.mul_nonneg (show 0 ≤ 1 - gap 0 by omega) (show 0 ≤ L by omega); omega)
    have h2 := Int.mul_le_mul_of_nonneg_left hc (show 0 ≤ 1 - gap 0 by omega)
    omega
  · exact hc
theorem ab_bound {gap : Int → Int} {L C B : Int} (hL : 0 < L) (hq : QP gap L C) {z : Int} (h : AbO gap (some z)) (hB : -B ≤ gap 0) (hB0 : 0 ≤ B) : z ≤ (B + 1) * L := by
  rcases Int.lt_or_le ((B + 1) * L) z with hc | hc
  · exfalso
    obtain ⟨h0, h1, h2⟩ := h
    have e1 : (B + 1) * L = B * L + L := by rw [Int.add_mul, Int.one_mul]
    have e2 := Int.mul_nonneg hB0 (show 0 ≤ L by omega)
    rcases Int.lt_or_le 0 C with hC | hC
    · have := h2 ((B + 1) * L) (by omega) hc
      have e := hq.mul (B + 1) 0
      rw [Int.zero_add] at e
      have h3 := Int.mul_le_mul_of_nonneg_left (show 1 ≤ C by omega) (show 0 ≤ B + 1 by omega)
      omega
    · have := h2 (z - L) (by omega) (by omega)
      have e := hq (z - L)
      rw [show z - L + L = z by omega] at e
      omega
  · exact hc
theorem cntE_add (p q : Pipe) {lo mid hi : Int} (h : lo ≤ mid + 1) (h' : mid ≤ hi) : cntE p q lo hi = cntE p q lo mid + cntE p q (mid + 1) hi := by
  unfold cntE
  rw [show (hi - lo + 1).toNat = (mid - lo + 1).toNat + (hi - (mid + 1) + 1).toNat by omega, cntW_add, show lo + (((mid - lo + 1).toNat : Nat) : Int) = mid + 1 by omega]
theorem cntE_nn (p q : Pipe) (lo hi : Int) : 0 ≤ cntE p q lo hi := (cntW_nn _ _ _).1
theorem cntE_self (p : Pipe) {lo hi : Int} (h : lo ≤ hi) : cntE p p lo hi = hi - lo + 1 := by
  unfold cntE
  rw [cntW_all]
  · omega
  · intro i _
    unfold eqAt gapF
    exact decide_eq_true (by omega)
theorem cntE_times {p q : Pipe} {L : Int} (hL : 0 < L) (hq : QP (gapF p q) L 0) (lo : Int) {t : Int} (ht : 0 ≤ t) : cntE p q lo (lo + t * L - 1) = t * cntE p q lo (lo + L - 1) := by
  have hg : ∀ x, eqAt p q (x + (L.toNat : Nat)) = eqAt p q x := fun x => by
    have := hq x
    rw [show L = ((L.toNat : Nat) : Int) by omega] at this
    unfold eqAt
    rw [this, Int.add_zero]
  obtain ⟨n, rfl⟩ := Int.eq_ofNat_of_zero_le ht
  unfold cntE
  have e : (lo + (n : Int) * L - 1 - lo + 1).toNat = n * L.toNat := by
    have : (n : Int) * L = ((n * L.toNat : Nat) : Int) := by push_cast; rw [Int.toNat_of_nonneg (by omega)]
    omega
  rw [e, cntW_times hg, show (lo + L - 1 - lo + 1).toNat = L.toNat by omega, cntW_any hg lo]
theorem sumR_le {g : Int → Int} (h : ∀ r, g r ≤ 1) : ∀ n : Nat, sumR n g ≤ n
  | 0 => by rw [sumR]; omega
  | n + 1 => by rw [sumR]; have := sumR_le h n; have := h n; omega
theorem linC_le (gap : Int → Int) (L C lo hi r : Int) : linC gap L C lo hi r ≤ 1 := by
  unfold linC
  split
  · split <;> omega
  · omega
theorem cntE_le {p q : Pipe} {L C : Int} (hL : 0 < L) (hq : QP (gapF p q) L C) (hC : C ≠ 0) (lo hi : Int) : cntE p q lo hi ≤ L := by
  have h := cnt_lin hL hq hC lo (hi - lo + 1).toNat
  have h2 := sumR_le (g := fun r => linC (gapF p q) L C lo (lo + ((hi - lo + 1).toNat : Nat) - 1) r) (fun r => linC_le _ _ _ _ _ _) L.toNat
  have e : cntE p q lo hi = cntW (fun x => decide (gapF p q x = 0)) lo (hi - lo + 1).toNat := rfl
  omega
/-- what a statement leaves, said once for all its ways -/
theorem s_seqC {t u : TS} {D : Ends} {σ : St} {H : Hp} (I : St → Hp → Prop) (h1 : ∀ N : St → Hp → Prop, (∀ σ' H', I σ' H' → N σ' H') → t { D with nx := N } σ H) (h2 : ∀ σ' H', I σ' H' → u D σ' H') : tSeq t u D σ H := h1 (u D) h2
theorem s_toN {N I : St → Hp → Prop} (h : ∀ σ' H', I σ' H' → N σ' H') {σ : St} {H : Hp} (i : I σ H) : N σ H := h σ H i
end My

namespace My
open PySem L2
/-- a comprehension over a list of ints whose values are made anew (tuples) -/
theorem ll_mk {K : PySem.W.Frag} {σ : St} {H : Hp} {Q : VK} {te : TE} {β : Type} {i0 : Nat} {a : Addr} {ns : List Int} (F : Hp → V → β → Prop) (hF : ∀ H H' v z, TKeep K H H' → F H v z → F H' v z) (g : Int → β) (hS : SqL K H a (ns.map V.int)) (hsz : ns.length < 16777216)
    (hw : ∀ x, wipe ((wipe σ [i0]).set i0 (some x)) [i0] = wipe σ [i0])
    (hs : ∀ (x : Int) (H' : Hp) (Q' : VK), x ∈ ns → Same H H' → (∀ v H4, Same H' H4 → F H4 v (g x) → Q' v H4) → te ((wipe σ [i0]).set i0 (some (.int x))) H' Q')
    (hd : ∀ D H' ys, Same H H' → H' D = some (.lst ys) → Paired (F H') ys (ns.map g) → H D = none → Q (.ref D) H') : LLoop (Itl K a) (gName i0) tYes te [i0] σ H Q := by
  refine fun D hD => lc_list (K := K) (a := a) (xs := ns.map V.int) (fun i H' => Same H H' ∧ ∃ ys, H' D = some (.lst ys) ∧ ys.length = i ∧ i ≤ ns.length ∧ Paired (F H') ys ((ns.take i).map g)) ⟨Same.up (Same.refl _) hD, [], upd_same, rfl, Nat.zero_le _, .nil⟩ (fun i H' _ h => SqL.same h.1 hS) (fun i xv H' hxi h => ?_) (fun H' h => ?_)
  · obtain ⟨h1, ys, h2, h3, h4, h5⟩ := h
    rw [List.getElem?_map, Option.map_eq_some_iff] at hxi
    obtain ⟨x, ex, rfl⟩ := hxi
    have hlt : i < ns.length := (List.getElem?_eq_some_iff.mp ex).1
    refine ⟨hw _, ?_⟩
    show te _ H' _
    refine hs x H' _ (List.mem_of_getElem? ex) h1 fun v H4 h4' hf => ⟨ys, h4' _ _ h2, by rw [PySem.sizeLine_eq]; omega, Same.upN (h1.trans h4') hD, ys ++ [v], upd_same, by rw [List.length_append, h3]; rfl, hlt, ?_⟩
    have ku : TKeep K H4 (L2.upd H4 D (.lst (ys ++ [v]))) := TKeep.upL .refl (h4' _ _ h2)
    rw [take_succ_of ex, List.map_append]
    exact Paired.snoc (Paired.mapP h5 fun _ _ z => hF _ _ _ _ ((TKeep.ofSame h4').trans ku) z) (hF _ _ _ _ ku hf)
  · obtain ⟨h1, ys, h2, h3, h4, h5⟩ := h
    rw [List.length_map, List.take_length] at h5
    exact hd D H' ys h1 h2 h5 hD
/-! ### one division -/
theorem div_least {f : Int → Int} {P c : Int} (hP : 0 < P) (hf : ∀ x, f x = (x + c) / P) : Least f P 1 := by
  refine ⟨hP, fun x => ?_, fun P' R' hp' hq => ?_⟩
  · rw [hf, hf, show x + P + c = x + c + P * 1 by omega, ediv_shift _ _ _ hP]
  · rcases Int.lt_or_le P' P with hlt | hle
    · exfalso
      have h1 := hq (-c)
      rw [hf, hf, show -c + P' + c = P' by omega, show -c + c = 0 by omega, Int.ediv_eq_zero_of_lt (by omega) hlt, Int.zero_ediv] at h1
      have h2 := hq.mul P (-c)
      rw [hf, hf, show -c + P * P' + c = P * P' by omega, show -c + c = 0 by omega, Int.mul_ediv_cancel_left _ (by omega), Int.zero_ediv, show R' = 0 by omega, Int.mul_zero] at h2
      omega
    · exact hle
theorem div_min {f : Int → Int} {P c : Int} (hP : 0 < P) (hc : 0 ≤ c ∧ c < P) (hf : ∀ x, f x = (x + c) / P) {lo hi : Int} (hmn : IsMin lo (scaled f P 1)) (hmx : IsMax hi (scaled f P 1)) : hi = c ∧ lo = c - (P - 1) := by
  have val : ∀ x, P * f x - 1 * x = c - (x + c) % P := by
    intro x
    have := Int.mul_ediv_add_emod (x + c) P
    rw [hf]; omega
  have mem : ∀ y ∈ scaled f P 1, c - (P - 1) ≤ y ∧ y ≤ c := by
    intro y hy
    obtain ⟨x, _, rfl⟩ := List.mem_map.mp hy
    rw [val]
    have := emod_b (x := (x : Int) + c) hP
    omega
  have at' : ∀ r, 0 ≤ r → r < P → c - r ∈ scaled f P 1 := by
    intro r h0 h1
    have z0 := Int.emod_nonneg (r - c) (show P ≠ 0 by omega)
    have z1 := Int.emod_lt_of_pos (r - c) hP
    refine List.mem_map.mpr ⟨((r - c) % P).toNat, List.mem_range.mpr (by omega), ?_⟩
    rw [show ((((r - c) % P).toNat : Nat) : Int) = (r - c) % P by omega, val]
    have : ((r - c) % P + c) % P = r := by rw [Int.emod_add_emod]; rw [show r - c + c = r by omega, Int.emod_eq_of_lt h0 h1]
    omega
  have a1 := mem _ hmn.1
  have a2 := mem _ hmx.1
  have b1 := hmn.2 _ (at' (P - 1) (by omega) (by omega))
  have b2 := hmx.2 _ (at' 0 (by omega) (by omega))
  omega
theorem div_asD {f : Int → Int} {P c : Int} (hP : 0 < P) (hc : 0 ≤ c ∧ c < P) (hf : ∀ x, f x = (x + c) / P) {P' R lo hi : Int} (hl : Least f P' R) (hmn : IsMin lo (scaled f P' R)) (hmx : IsMax hi (scaled f P' R)) : asD P' R lo hi = .tuple [.str "scale", .int 1, .int P, .int c] := by
  obtain ⟨rfl, rfl⟩ := Least.unique hl (div_least hP hf)
  obtain ⟨rfl, rfl⟩ := div_min hP hc hf hmn hmx
  unfold asD
  rw [if_pos (by omega)]
def divs (c : Int → Int) (ms : List Int) : Pipe := ms.map fun m => .sc 1 m (c m)
theorem div3_down (a b c x : Int) (ha : 0 < a) (hb : 0 < b) : Pipe.val (divs (fun _ => 0) [a, b, c]) x = (x + 0) / (a * b * c) := by
  show (1 * ((1 * ((1 * x + 0) / a) + 0) / b) + 0) / c = _
  simp only [Int.one_mul, Int.add_zero]
  rw [Int.ediv_ediv_of_nonneg (x := x) (by omega), Int.ediv_ediv_of_nonneg (x := x) (by have := Int.mul_pos ha hb; omega)]
theorem ceil_div {a b x : Int} (ha : 0 < a) (hb : 0 < b) : ((x + (a - 1)) / a + (b - 1)) / b = (x + (a * b - 1)) / (a * b) := by
  rw [← Int.ediv_ediv_of_nonneg (by omega)]
  congr 1
  rw [show x + (a * b - 1) = x + (a - 1) + a * (b - 1) by rw [Int.mul_sub]; omega, ediv_shift _ _ _ ha]
theorem div3_up (a b c x : Int) (ha : 0 < a) (hb : 0 < b) (hc : 0 < c) : Pipe.val (divs (fun m => m - 1) [a, b, c]) x = (x + (a * b * c - 1)) / (a * b * c) := by
  show (1 * ((1 * ((1 * x + (a - 1)) / a) + (b - 1)) / b) + (c - 1)) / c = _
  rw [Int.one_mul, Int.one_mul, Int.one_mul, ceil_div ha hb, ceil_div (Int.mul_pos ha hb) hc]
/-! ### a single step by its offset -/
theorem off_all {f : Int → Int} {P R lo hi : Int} (hl : Least f P R) (hmn : IsMin lo (scaled f P R)) (hmx : IsMax hi (scaled f P R)) (h : hi ≤ lo + P - 1) (x : Int) : (R * x + hi) / P = f x := by
  have hP := hl.pos
  have h1 := hmx.2 _ (hl.qp.top hP x)
  have h2 := hmn.2 _ (hl.qp.top hP x)
  have e : R * x + hi = P * f x + (x * R + hi - f x * P) := by rw [Int.mul_comm R x, Int.mul_comm P]; omega
  rw [e, Int.add_comm, Int.add_mul_ediv_left _ _ (by omega), Int.ediv_eq_zero_of_lt (by omega) (by omega), Int.zero_add]
theorem off_least {f : Int → Int} {P R hi : Int} (hP : 0 < P) (hmx : IsMax hi (scaled f P R)) : ¬ (∀ x : Nat, x < P.toNat → (R * (x : Int) + hi - 1) / P = f x) := by
  intro h
  obtain ⟨x, hx, e⟩ := List.mem_map.mp hmx.1
  have h1 := h x (List.mem_range.mp hx)
  have h2 := Int.mul_ediv_add_emod (R * (x : Int) + hi - 1) P
  have h3 := Int.emod_nonneg (R * (x : Int) + hi - 1) (show P ≠ 0 by omega)
  rw [h1] at h2
  omega
theorem fr_ge {t b : Int} (hb : 0 < b) : frTop t b ≥ frBot t b ↔ t ≥ b := by
  obtain ⟨g, hg, _, e1, e2, _⟩ := fr_spec (t := t) hb
  generalize frTop t b = u at *
  generalize frBot t b = v at *
  rw [e1, e2]
  constructor
  · intro h; exact Int.mul_le_mul_of_nonneg_left h (by omega)
  · intro h; exact Int.le_of_mul_le_mul_left h hg
theorem divs_ok3 {c : Int → Int} {x y z : Int} (hx : 1 ≤ x ∧ x ≤ 4) (hy : 1 ≤ y ∧ y ≤ 4) (hz : 1 ≤ z ∧ z ≤ 4) (hc : ∀ m, 1 ≤ m → m ≤ 4 → 0 ≤ c m ∧ c m ≤ 4) : (divs c [x, y, z]).ok := by
  have p1 : x * y ≤ 4 * 4 := Int.mul_le_mul hx.2 hy.2 (by omega) (by omega)
  have p0 := one_le_mul hx.1 hy.1
  have p2 : x * y * z ≤ 4 * 4 * 4 := Int.mul_le_mul p1 hz.2 (by omega) (by omega)
  have q1 := hc x hx.1 hx.2
  have q2 := hc y hy.1 hy.2
  have q3 := hc z hz.1 hz.2
  refine ⟨by simp [divs], ?_, ?_⟩
  · intro s hs
    simp only [divs, List.map_cons, List.map_nil, List.mem_cons, List.not_mem_nil, or_false] at hs
    rcases hs with rfl | rfl | rfl <;> exact ⟨⟨by omega, by omega⟩, ⟨by omega, by omega⟩, by omega, by omega⟩
  · simp only [divs, Pipe.prod, Step.per, List.map_cons, List.map_nil, List.foldl_cons, List.foldl_nil, Int.one_mul]
    omega
end My

namespace My
open PySem L2
/-! ### xs.index(k), the last of a tuple, all but the last -/
theorem kmt_index {X : Cx} (K : PySem.W.Frag) (h : X.K = K := by rfl) : MtR X "list.index" (rIndex K) := by subst h; exact mt_index
section
variable {K : PySem.W.Frag} {H : Hp} {Q : VK}
theorem r_index {p : Addr} {ns : List Int} {k : Int} {j : Nat} (h : SqL K H p (ns.map V.int)) (hj : ns[j]? = some k) (hf : ∀ m, m < j → ns[m]? ≠ some k) (q : Q (.int (j : Nat)) H) : rIndex K (.ref p) [.int k] H Q := by
  refine ⟨p, ns.map V.int, .int k, j, .int k, rfl, rfl, h, rfl, by rw [List.all_map]; simp [flatV], by rw [List.getElem?_map, hj]; rfl, by simp [eqV], fun m z' hm hz => ?_, q⟩
  rw [List.getElem?_map, Option.map_eq_some_iff] at hz
  obtain ⟨z, ez, rfl⟩ := hz
  have hne : z ≠ k := fun e => hf m hm (by rw [ez, e])
  simp [eqV, hne]
theorem r_ixPl {a : Addr} {q0 : Pipe} {t : Step} (h : PipeAt K H (.ref a) (q0 ++ [t])) (q : ∀ v, StepAt K H v t → Q v H) : rIxT K (.ref a) (.int (-1)) H Q := by
  obtain ⟨_, xs, e, h, r⟩ := h
  cases e
  have hl := Paired.len r
  rw [List.length_append, List.length_singleton] at hl
  have hx : q0.length < xs.length := by omega
  obtain ⟨s, hs, f⟩ := Paired.get r (List.getElem?_eq_getElem hx)
  rw [List.getElem?_append_right (Nat.le_refl _), Nat.sub_self] at hs
  cases hs
  refine r_ixT h (v := xs[q0.length]) ?_ (q _ f)
  unfold atI ixN
  rw [if_neg (by decide), if_pos (by omega)]
  show xs[(-1 + (xs.length : Int)).toNat]? = _
  rw [show (-1 + (xs.length : Int)).toNat = q0.length by omega, List.getElem?_eq_getElem hx]
theorem Paired.take_len {α β : Type} {F : α → β → Prop} {xs : List α} {q0 : List β} {t : β} (h : Paired F xs (q0 ++ [t])) : Paired F (xs.take q0.length) q0 := by
  have := Paired.take' q0.length h
  rwa [List.take_left] at this
theorem r_slPl {a : Addr} {q0 : Pipe} {t : Step} (h : PipeAt K H (.ref a) (q0 ++ [t])) (q : ∀ c H', Same H H' → PipeAt K H' (.ref c) q0 → Q (.ref c) H') : rSlA K (.ref a) none (some (-1)) H Q := by
  obtain ⟨_, xs, e, h, r⟩ := h
  cases e
  have hl := Paired.len r
  rw [List.length_append, List.length_singleton] at hl
  refine r_slT h fun c H' hs ht => q c H' hs ⟨c, _, rfl, ht, ?_⟩
  have e2 : cutV xs none (some (-1)) = xs.take q0.length := by
    unfold cutV
    rw [HT.sIx_none]
    have : HT.sIx xs.length xs.length (some (-1)) = q0.length := by
      simp only [HT.sIx]
      split <;> omega
    rw [this]
    simp
  rw [e2]
  exact Paired.mapP (Paired.take_len r) fun _ _ => StepAt.same hs
theorem cutV_mem {xs : List V} {lo hi : Option Int} {x : V} (h : x ∈ cutV xs lo hi) : x ∈ xs := by
  unfold cutV at h
  exact List.mem_of_mem_drop (List.mem_of_mem_take h)
end
theorem sub_emod_div' {t m : Int} (h : 0 < m) : (t - t % m) / m = t / m := by
  have h1 : t - t % m = m * (t / m) := by have := Int.mul_ediv_add_emod t m; omega
  rw [h1, Int.mul_ediv_cancel_left _ (by omega)]
theorem red_val {k m c d x : Int} (hd : 0 < d) (hk : k = d * (k / d)) (hm : m = d * (m / d)) : ((k / d) * x + (c - c % d) / d) / (m / d) = (k * x + c) / m := by
  rw [sub_emod_div' hd]
  generalize k / d = k' at *
  generalize m / d = m' at *
  subst hk hm
  rw [← Int.ediv_ediv_of_nonneg (by omega)]
  congr 1
  rw [Int.mul_assoc, Int.add_comm (d * _) c, Int.add_mul_ediv_left _ _ (by omega), Int.add_comm]
theorem red_ok {k m c d : Int} (h : Step.ok (.sc k m c)) (hd : 0 < d) (hk : k = d * (k / d)) (hm : m = d * (m / d)) : Step.ok (.sc (k / d) (m / d) ((c - c % d) / d)) ∧ m / d ≤ m := by
  obtain ⟨⟨k1, k2⟩, ⟨m1, m2⟩, c1, c2⟩ := h
  rw [sub_emod_div' hd]
  have hc := ediv_big (x := c) (P := d) (B := 1000000000) ⟨c1, c2⟩ hd
  have a1 : 1 ≤ k / d := by
    rcases Int.lt_or_le (k / d) 1 with h | h
    · have := Int.mul_nonpos_of_nonneg_of_nonpos (show 0 ≤ d by omega) (show k / d ≤ 0 by omega); omega
    · exact h
  have a2 : 1 ≤ m / d := by
    rcases Int.lt_or_le (m / d) 1 with h | h
    · have := Int.mul_nonpos_of_nonneg_of_nonpos (show 0 ≤ d by omega) (show m / d ≤ 0 by omega); omega
    · exact h
  have b1 : k / d ≤ k := by have := Int.mul_le_mul_of_nonneg_right (show 1 ≤ d by omega) (show 0 ≤ k / d by omega); omega
  have b2 : m / d ≤ m := by have := Int.mul_le_mul_of_nonneg_right (show 1 ≤ d by omega) (show 0 ≤ m / d by omega); omega
  exact ⟨⟨⟨a1, by omega⟩, ⟨a2, by omega⟩, hc⟩, b2⟩
theorem merge_val (k1 c1 k2 m2 c2 x : Int) : (Step.sc (k1 * k2) m2 (k2 * c1 + c2)).val x = (Step.sc k2 m2 c2).val ((Step.sc k1 1 c1).val x) := by
  show (k1 * k2 * x + (k2 * c1 + c2)) / m2 = (k2 * ((k1 * x + c1) / 1) + c2) / m2
  rw [Int.ediv_one, Int.mul_add, ← Int.mul_assoc, Int.mul_comm k1 k2]
  congr 1
  omega
/-- what is kept of the pipeline rewritten so far -/
structure RwInv (p q : Pipe) : Prop where
  val : ∀ x, q.val x = p.val x
  len : q.length ≤ p.length
  oks : ∀ s ∈ q, s.ok
  prod : q.prod ≤ p.prod
theorem RwInv.snoc {p q : Pipe} (h : RwInv p q) {s s' : Step} (hq : 1 ≤ q.prod) (ok : s'.ok) (hv : ∀ x, s'.val x = s.val x) (hp : s'.per ≤ s.per) : RwInv (p ++ [s]) (q ++ [s']) := by
  refine ⟨fun x => ?_, by simp only [List.length_append, List.length_cons, List.length_nil]; have := h.len; omega, ?_, ?_⟩
  · rw [Pipe.val_append, Pipe.val_append, h.val]; exact hv _
  · intro t ht
    rcases List.mem_append.mp ht with ht | ht
    · exact h.oks t ht
    · rw [List.mem_singleton.mp ht]; exact ok
  · rw [Pipe.prod_snoc, Pipe.prod_snoc]
    have := (Step.per_pos ok).1
    exact Int.mul_le_mul h.prod hp (by omega) (by have := h.prod; omega)
theorem RwInv.merge {p q0 : Pipe} {k1 c1 k2 m2 c2 : Int} (h : RwInv p (q0 ++ [.sc k1 1 c1])) {s : Step} (hq : 1 ≤ q0.prod) (ok : Step.ok (.sc (k1 * k2) m2 (k2 * c1 + c2))) (hv : ∀ x, (Step.sc k2 m2 c2).val x = s.val x) (hp : m2 ≤ s.per) : RwInv (p ++ [s]) (q0 ++ [.sc (k1 * k2) m2 (k2 * c1 + c2)]) := by
  have hl := h.len
  have hpr := h.prod
  rw [Pipe.prod_snoc] at hpr
  have e1 : Step.per (.sc k1 1 c1) = 1 := rfl
  rw [e1, Int.mul_one] at hpr
  refine ⟨fun x => ?_, by simp only [List.length_append, List.length_cons, List.length_nil] at *; omega, ?_, ?_⟩
  · have h1 := h.val x
    rw [Pipe.val_append] at h1
    rw [Pipe.val_append, Pipe.val_append, ← h1]
    show (Step.sc (k1 * k2) m2 (k2 * c1 + c2)).val (q0.val x) = s.val ((Step.sc k1 1 c1).val (q0.val x))
    rw [merge_val, hv]
  · intro t ht
    rcases List.mem_append.mp ht with ht | ht
    · exact h.oks t (List.mem_append_left _ ht)
    · rw [List.mem_singleton.mp ht]; exact ok
  · rw [Pipe.prod_snoc, Pipe.prod_snoc]
    have := (Step.per_pos ok).1
    exact Int.mul_le_mul hpr hp (by have : Step.per (.sc (k1 * k2) m2 (k2 * c1 + c2)) = m2 := rfl; omega) (by omega)
/-! ### normal forms; what stands ahead of the first difference -/
theorem nf_eqv (f g : Int → Int) (P P' : Int) : PyData.eqv (nfD f P) (nfD g P') = true ↔ P = P' ∧ f 0 = g 0 ∧ diffs f P.toNat = diffs g P'.toNat := by
  unfold nfD
  simp only [PyData.eqv, PyData.eqvAll, eqv_ints, Bool.and_eq_true, beq_iff_eq, decide_eq_true_eq, Bool.and_true, and_assoc]
theorem nf_iff {f g : Int → Int} {P R P' R' : Int} (h : Least f P R) (h' : Least g P' R') : PyData.eqv (nfD f P) (nfD g P') = true ↔ ∀ x, f x = g x := by
  rw [nf_eqv]
  constructor
  · rintro ⟨rfl, h0, hd⟩
    have hP := h.pos
    have step : ∀ n : Nat, n ≤ P.toNat → f n = g n := by
      intro n
      induction n with
      | zero => intro _; exact h0
      | succ n ih =>
        intro hn
        have i1 := ih (by omega)
        have := congrArg (fun l : List Int => l[n]?) hd
        simp only [diffs_get (show n < P.toNat by omega), Option.some.injEq] at this
        push_cast
        omega
    have e := step P.toNat (Nat.le_refl _)
    rw [show ((P.toNat : Nat) : Int) = P by omega] at e
    have a1 := h.qp 0
    have a2 := h'.qp 0
    rw [Int.zero_add] at a1 a2
    have hR : R = R' := by omega
    intro x
    rw [h.qp.at x, h'.qp.at x, hR]
    have z0 := Int.emod_nonneg x (show P ≠ 0 by omega)
    have z1 := Int.emod_lt_of_pos x hP
    have := step (x % P).toNat (by omega)
    rw [show (((x % P).toNat : Nat) : Int) = x % P by omega] at this
    omega
  · intro hx
    obtain ⟨rfl, rfl⟩ := Least.unique (h.congr hx) h'
    exact ⟨rfl, hx 0, by rw [show f = g from funext hx]⟩
theorem ordL_abs : ∀ (n : Nat) (x : Int), x ∈ ordL n → -(n : Int) ≤ x ∧ x ≤ n
  | 0, x, h => by rw [List.mem_singleton.mp h]; omega
  | n + 1, x, h => by
    rcases List.mem_append.mp h with h | h
    · have := ordL_abs n x h; omega
    · simp only [List.mem_cons, List.not_mem_nil, or_false] at h
      omega
theorem first_ix {l : List Int} {z : Int} (h : z ∈ l) : ∃ j : Nat, l[j]? = some z ∧ ∀ m, m < j → l[m]? ≠ some z := by
  induction l with
  | nil => simp at h
  | cons y l ih =>
    by_cases e : y = z
    · exact ⟨0, by simp [e], fun m hm => by omega⟩
    · obtain ⟨j, h1, h2⟩ := ih (by rcases List.mem_cons.mp h with h | h; exact absurd h.symm e; exact h)
      refine ⟨j + 1, by simpa using h1, fun m hm => ?_⟩
      cases m with
      | zero => simp [e]
      | succ m => simpa using h2 m (by omega)
theorem find_ahead {c : Int → Bool} : ∀ {l : List Int} {z : Int} {j : Nat}, l.find? c = some z → l[j]? = some z → (∀ m, m < j → l[m]? ≠ some z) → ∀ y ∈ l.take j, c y = false
  | [], _, _, h, _, _ => by simp at h
  | x :: l, z, j, h, hj, hm => by
    rw [List.find?_cons] at h
    cases hx : c x with
    | true =>
      rw [hx] at h
      cases h
      cases j with
      | zero => simp
      | succ j => exact absurd rfl (hm 0 (by omega))
    | false =>
      rw [hx] at h
      cases j with
      | zero => simp
      | succ j =>
        intro y hy
        rw [List.take_succ_cons] at hy
        rcases List.mem_cons.mp hy with rfl | hy
        · exact hx
        · exact find_ahead h (by simpa using hj) (fun m hm' => by simpa using hm (m + 1) (by omega)) y hy
theorem difO_bound {p q : Pipe} {z : Int} (h : DifO p q (Option.some z)) : -(p.prod + q.prod) ≤ z ∧ z ≤ p.prod + q.prod := by
  obtain ⟨n, h1, _, h3⟩ := h.ex
  have := ordL_abs n z (List.mem_of_find?_eq_some h1.symm)
  omega
theorem difO_ahead {p q : Pipe} {z : Int} (h : DifO p q (Option.some z)) {N j : Nat} (hj : (ordL N)[j]? = some z) (hm : ∀ m, m < j → (ordL N)[m]? ≠ some z) : ∀ y ∈ (ordL N).take j, p.val y = q.val y := by
  obtain ⟨n, _, h2, _⟩ := h.ex
  have e := h2 (max n N) (Nat.le_max_left _ _)
  obtain ⟨t, ht⟩ := ordL_pre (Nat.le_max_right n N)
  have hlt : j < (ordL N).length := (List.getElem?_eq_some_iff.mp hj).1
  have hh : ∀ m, m ≤ j → (ordL (max n N))[m]? = (ordL N)[m]? := fun m hm => by rw [ht, List.getElem?_append_left (by omega)]
  have hf := find_ahead (l := ordL (max n N)) (j := j) e (by rw [hh j (Nat.le_refl _)]; exact hj) (fun m hmj => by rw [hh m (by omega)]; exact hm m hmj)
  intro y hy
  have := hf y (by rw [ht, List.take_append_of_le_length (by omega)]; exact hy)
  simpa using this
theorem cutI_ex (ns : List Int) (lo hi : Option Int) : ∃ ms : List Int, cutV (ns.map V.int) lo hi = ms.map V.int ∧ (∀ y ∈ ms, y ∈ ns) ∧ ms.length ≤ ns.length := by
  refine ⟨(ns.drop (HT.sIx ns.length 0 lo)).take (HT.sIx ns.length ns.length hi - HT.sIx ns.length 0 lo), ?_, fun y hy => List.mem_of_mem_drop (List.mem_of_mem_take hy), ?_⟩
  · unfold cutV
    rw [List.length_map, List.map_take, List.map_drop]
  · rw [List.length_take, List.length_drop]; omega
theorem take_mem {l : List Int} {a b : Nat} (h : a ≤ b) {y : Int} (hy : y ∈ l.take a) : y ∈ l.take b := by
  have : l.take a = (l.take b).take a := by rw [List.take_take, Nat.min_eq_left h]
  rw [this] at hy
  exact List.mem_of_mem_take hy
end My

/-! ### a dict that counts -/
namespace My
open PySem L2
def kI (y : Int) : Key := Sum.inl y
structure KInv (kvs : List (Key × V)) (ws : List Int) : Prop where
  ex : ∃ ks : List Int, kvs.map (·.1) = ks.map kI ∧ ks.Nodup ∧ (∀ y, y ∈ ks ↔ y ∈ ws) ∧ ks.length ≤ ws.length
  val : ∀ y, valV kvs (kI y) = if y ∈ ws then some (.int (ws.count y : Nat)) else none
theorem KInv.nil : KInv [] [] := ⟨⟨[], rfl, List.nodup_nil, by simp, Nat.le_refl _⟩, fun y => by simp; rfl⟩
theorem KInv.get {kvs : List (Key × V)} {ws : List Int} (h : KInv kvs ws) (y : Int) : (valV kvs (kI y)).getD (.int 0) = .int (ws.count y : Nat) := by
  rw [h.val]
  by_cases e : y ∈ ws
  · rw [if_pos e]; rfl
  · rw [if_neg e, List.count_eq_zero.mpr e]; rfl
theorem KInv.put {kvs : List (Key × V)} {ws : List Int} (h : KInv kvs ws) (y : Int) : KInv (putK kvs (kI y) (.int ((ws.count y : Nat) + 1 : Int))) (ws ++ [y]) := by
  refine ⟨?_, fun j => ?_⟩
  · obtain ⟨ks, h1, h2, h3, h4⟩ := h.ex
    unfold putK
    have hany : (kvs.any fun kv => decide (kv.1 = kI y)) = true ↔ y ∈ ws := by
      rw [valV_any, h.val]
      by_cases e : y ∈ ws
      · simp [e]
      · simp [e]
    by_cases e : y ∈ ws
    · rw [if_pos (hany.mpr e)]
      refine ⟨ks, ?_, h2, fun z => ?_, by rw [List.length_append]; omega⟩
      · rw [List.map_map, ← h1]
        apply List.map_congr_left
        intro kv _
        show (if kv.1 = kI y then (kv.1, V.int _) else kv).1 = kv.1
        split <;> rfl
      · rw [h3, List.mem_append, List.mem_singleton]
        constructor
        · exact .inl
        · rintro (h | rfl)
          · exact h
          · exact e
    · rw [if_neg (fun z => e (hany.mp z))]
      refine ⟨ks ++ [y], by rw [List.map_append, List.map_append, h1]; rfl, ?_, fun z => ?_, by rw [List.length_append, List.length_append]; simp; exact h4⟩
      · rw [List.nodup_append]
        refine ⟨h2, by simp, fun a ha b hb => ?_⟩
        rw [List.mem_singleton.mp hb]
        rintro rfl
        exact e ((h3 a).mp ha)
      · rw [List.mem_append, h3, List.mem_append]
  · rw [valV_put, h.val]
    have hk : kI j = kI y ↔ j = y := ⟨fun e => Sum.inl.inj e, fun e => by rw [e]⟩
    by_cases e : j = y
    · subst e
      rw [if_pos rfl, if_pos (by simp), List.count_append]
      simp
    · rw [if_neg (fun z => e (hk.mp z)), List.count_append]
      have e0 : List.count j [y] = 0 := List.count_eq_zero.mpr (by simpa using e)
      rw [e0, Nat.add_zero]
      by_cases e2 : j ∈ ws
      · rw [if_pos e2, if_pos (List.mem_append_left _ e2)]
      · rw [if_neg e2, if_neg (by rw [List.mem_append]; rintro (h | h); exact e2 h; exact e (List.mem_singleton.mp h))]
section
variable {K : PySem.W.Frag} {σ : St} {H : Hp} {Q : VK} {te : TE} {tt : TT}
theorem ll_keysF {d : Addr} {o : Obj} {kvs : List (Key × V)} {ks : List Int} {i0 : Nat} (c : Int → Bool) (hk : kvs.map (·.1) = ks.map kI) (hH : H d = some (.frz o (.dK kvs))) (hsz : ks.length < 16777216) (hw : ∀ x, wipe ((wipe σ [i0]).set i0 (some x)) [i0] = wipe σ [i0])
    (ht : ∀ (y : Int) (H' : Hp) (Q' : Bool → Hp → Prop), Same H H' → (∀ H4, Same H' H4 → Q' (c y) H4) → tt ((wipe σ [i0]).set i0 (some (.int y))) H' Q')
    (hs : ∀ (y : Int) (H' : Hp) (Q' : VK), Same H H' → (∀ H4, Same H' H4 → Q' (.int y) H4) → te ((wipe σ [i0]).set i0 (some (.int y))) H' Q')
    (hd : ∀ D H', Same H H' → H' D = some (.lst ((ks.filter c).map V.int)) → H D = none → Q (.ref D) H') : LLoop (Itk d o kvs) (gName i0) tt te [i0] σ H Q := by
  intro D hD
  have hl : kvs.length = ks.length := by have := congrArg List.length hk; simpa using this
  refine ⟨fun i m H' => m = ks.length - i ∧ i ≤ ks.length ∧ Same H H' ∧ H' D = some (.lst (((ks.take i).filter c).map V.int)), ⟨_, rfl, Nat.zero_le _, Same.up (Same.refl _) hD, upd_same⟩, ?_⟩
  rintro i m H' ⟨rfl, hi, hS, hlst⟩
  by_cases hlt : i < ks.length
  · refine .inr ⟨⟨hS _ _ hH, by omega⟩, fun H3 => Same H H3 ∧ H3 D = some (.lst (((ks.take (i + 1)).filter c).map V.int)), fun H3 h => ⟨ks.length - (i + 1), by omega, rfl, hlt, h.1, h.2⟩, ?_⟩
    rintro x H2 ⟨rfl, k, v, hkv, rfl⟩
    have ek : k = kI ks[i] := by
      have := congrArg (fun l : List Key => l[i]?) hk
      simp only [List.getElem?_map, hkv, List.getElem?_eq_getElem hlt, Option.map_some, Option.some.injEq] at this
      exact this
    subst ek
    refine ⟨hw _, ?_⟩
    show tt ((wipe σ [i0]).set i0 (some (.int ks[i]))) H2 _
    refine ht ks[i] H2 _ hS fun H3 h3 => ?_
    have ex : ks[i]? = some ks[i] := List.getElem?_eq_getElem hlt
    have e : (ks.take (i + 1)).filter c = (ks.take i).filter c ++ if c ks[i] = true then [ks[i]] else [] := by
      rw [take_succ_of ex, List.filter_append]
      by_cases hc : c ks[i] = true
      · simp [hc]
      · simp [hc]
    by_cases hc : c ks[i] = true
    · rw [if_pos hc]
      refine hs ks[i] H3 _ (hS.trans h3) fun H4 h4 => ⟨_, h4 _ _ (h3 _ _ hlst), ?_, Same.upN ((hS.trans h3).trans h4) hD, ?_⟩
      · have l1 := List.length_filter_le c (ks.take i)
        have l2 := List.length_take_le' i ks
        rw [List.length_map, PySem.sizeLine_eq]; omega
      · rw [upd_same, e, if_pos hc, List.map_append]; rfl
    · rw [if_neg hc]
      exact ⟨hS.trans h3, by rw [e, if_neg hc, List.append_nil]; exact h3 _ _ hlst⟩
  · refine .inl ⟨⟨hS _ _ hH, by omega⟩, hd D H' hS ?_ hD⟩
    rw [hlst, List.take_of_length_le (by omega)]
theorem isD_k {H : Hp} {a : Addr} {kvs : List (Key × V)} (h : H a = some (.dK kvs)) : IsD H a := .inl ⟨kvs, .inl h⟩
end
/-! ### how often a value stands in a row of values -/
theorem count_cnt (f : Int → Int) (s y : Int) : ∀ n : Nat, ((((List.range n).map fun (i : Nat) => f (s + i)).count y : Nat) : Int) = cntW (fun x => decide (f x = y)) s n
  | 0 => by simp [cntW]
  | n + 1 => by
    rw [cntW, ← count_cnt f s y n, List.range_succ, List.map_append, List.count_append]
    by_cases h : f (s + n) = y
    · simp [h]
    · simp [h]
theorem cnt_block {p : Pipe} (hp : p.pos) {s y : Int} {n : Nat} (h1 : p.val s < y) (h2 : y < p.val (s + n - 1)) : cntW (fun x => decide (p.val x = y)) s n = p.first (y + 1) - p.first y := by
  have a1 : ¬ p.first y ≤ s := fun h => by have := (Pipe.gal hp).mpr h; omega
  have a2 : p.first (y + 1) ≤ s + n - 1 := (Pipe.gal hp).mp (by omega)
  have a3 := Pipe.first_mono hp (show y ≤ y + 1 by omega)
  obtain ⟨u, hu⟩ : ∃ u : Nat, (u : Int) = p.first y - s := ⟨(p.first y - s).toNat, by omega⟩
  obtain ⟨v, hv⟩ : ∃ v : Nat, (v : Int) = p.first (y + 1) - p.first y := ⟨(p.first (y + 1) - p.first y).toNat, by omega⟩
  obtain ⟨w, hw⟩ : ∃ w : Nat, (w : Int) = s + n - p.first (y + 1) := ⟨(s + n - p.first (y + 1)).toNat, by omega⟩
  have en : n = u + v + w := by omega
  subst en
  rw [cntW_add, cntW_add, cntW_zero (n := u), cntW_all (n := v), cntW_zero (n := w)]
  · omega
  · intro i hi
    refine decide_eq_false fun h => ?_
    have := (Pipe.gal hp (y := y + 1) (x := s + ((u + v : Nat) : Int) + i)).mpr (by push_cast; omega)
    omega
  · intro i hi
    exact decide_eq_true (in_block hp (by omega) (by omega))
  · intro i hi
    refine decide_eq_false fun h => ?_
    have := (Pipe.gal hp (y := y) (x := s + i)).mp (by omega)
    omega
theorem nodup_cnt (good : Int → Bool) (lo : Int) : ∀ (n : Nat) (M : List Int), M.Nodup → (∀ y, y ∈ M ↔ lo ≤ y ∧ y < lo + n ∧ good y = true) → (M.length : Int) = cntW good lo n
  | 0, M, _, h => by
    cases M with
    | nil => rfl
    | cons y M => have := (h y).mp (by simp); omega
  | n + 1, M, hn, h => by
    rw [cntW]
    by_cases hz : good (lo + n) = true
    · rw [if_pos hz, ← nodup_cnt good lo n (M.erase (lo + n)) (hn.erase _) fun y => ?_]
      · have hm : lo + (n : Int) ∈ M := (h _).mpr ⟨by omega, by push_cast; omega, hz⟩
        rw [List.length_erase_of_mem hm]
        have := List.length_pos_of_mem hm
        omega
      · rw [hn.mem_erase_iff, h]
        push_cast
        constructor
        · rintro ⟨h1, h2, h3, h4⟩; exact ⟨h2, by omega, h4⟩
        · rintro ⟨h1, h2, h3⟩; exact ⟨by omega, h1, by omega, h3⟩
    · rw [if_neg hz, Int.add_zero]
      refine nodup_cnt good lo n M hn fun y => ?_
      rw [h]
      push_cast
      constructor
      · rintro ⟨h1, h2, h3⟩
        refine ⟨h1, ?_, h3⟩
        rcases Int.lt_or_le y (lo + n) with h4 | h4
        · exact h4
        · exfalso
          rw [show y = lo + n by omega] at h3
          exact hz h3
      · rintro ⟨h1, h2, h3⟩; exact ⟨h1, by omega, h3⟩
/-- the two lists of the law -/
theorem inside_len {p : Pipe} (hp : p.pos) {s lo hi : Int} {n : Nat} {ks : List Int} (h1 : p.val s < lo) (h2 : hi < p.val (s + n - 1)) (hn : ks.Nodup) (hm : ∀ y, y ∈ ks ↔ y ∈ (List.range n).map fun (i : Nat) => p.val (s + i)) (rep : Bool) :
    ((((ks.filter fun y => decide (lo ≤ y) && decide (y ≤ hi)).filter fun y => if rep = true then decide (1 < ((((List.range n).map fun (i : Nat) => p.val (s + i)).count y : Nat) : Int)) else true).length : Nat) : Int) = cntV p rep lo hi := by
  rw [cntV_att]
  refine nodup_cnt (attR p rep) lo (hi - lo + 1).toNat _ ((hn.filter _).filter _) fun y => ?_
  rw [List.mem_filter, List.mem_filter, hm]
  simp only [Bool.and_eq_true, decide_eq_true_eq]
  by_cases hr : lo ≤ y ∧ y ≤ hi
  · have hb := cnt_block hp (y := y) (s := s) (n := n) (by omega) (by omega)
    have hc := count_cnt p.val s y n
    rw [hb] at hc
    have hmem : y ∈ (List.range n).map (fun (i : Nat) => p.val (s + i)) ↔ p.first y < p.first (y + 1) := by
      rw [← List.count_pos_iff]
      constructor <;> intro h <;> omega
    rw [hmem]
    cases rep with
    | false =>
      simp only [Bool.false_eq_true, if_false]
      show _ ↔ lo ≤ y ∧ y < lo + ((hi - lo + 1).toNat : Nat) ∧ att p y = true
      unfold att
      rw [decide_eq_true_eq]
      constructor
      · rintro ⟨⟨h3, h4⟩, _⟩; exact ⟨hr.1, by omega, h3⟩
      · rintro ⟨_, _, h3⟩; exact ⟨⟨h3, hr⟩, trivial⟩
    | true =>
      simp only [if_true, decide_eq_true_eq]
      show _ ↔ lo ≤ y ∧ y < lo + ((hi - lo + 1).toNat : Nat) ∧ att2 p y = true
      unfold att2
      rw [decide_eq_true_eq, hc]
      constructor
      · rintro ⟨⟨h3, h4⟩, h5⟩; exact ⟨hr.1, by omega, by omega⟩
      · rintro ⟨_, _, h3⟩; exact ⟨⟨by omega, hr⟩, by omega⟩
  · constructor
    · rintro ⟨⟨_, h⟩, _⟩; exact absurd h hr
    · rintro ⟨h3, h4, _⟩; exact absurd ⟨h3, by omega⟩ hr
section
variable {K : PySem.W.Frag} {H : Hp} {Q : VK}
theorem r_ixLastR {a : Addr} {f : Nat → Int} {n : Nat} (h : SqL K H a (((List.range n).map f).map V.int)) (hn : 0 < n) (q : Q (.int (f (n - 1))) H) : rIxL K (.ref a) (.int (-1)) H Q := by
  refine r_ixL h ?_ q
  unfold atI ixN
  rw [if_neg (by decide), if_pos (by simp; omega)]
  show (((List.range n).map f).map V.int)[(-1 + ((((List.range n).map f).map V.int).length : Int)).toNat]? = _
  have e : (-1 + ((((List.range n).map f).map V.int).length : Int)).toNat = n - 1 := by simp only [List.length_map, List.length_range]; omega
  rw [e, List.getElem?_map, List.getElem?_map, List.getElem?_range (by omega)]
  rfl
theorem s_lock {t : TS} {D : Ends} {σ : St} {d : Addr} {kvs : List (Key × V)} (h : H d = some (.dK kvs)) (k : ∀ od, t ⟨fun σ' H' => H' d = some (.frz od (.dK kvs)) ∧ D.nx σ' (upd H' d (.dK kvs)), fun v H' => H' d = some (.frz od (.dK kvs)) ∧ D.rt v (upd H' d (.dK kvs)), fun σ' H' => H' d = some (.frz od (.dK kvs)) ∧ D.bk σ' (upd H' d (.dK kvs)), fun σ' H' => H' d = some (.frz od (.dK kvs)) ∧ D.ct σ' (upd H' d (.dK kvs))⟩ σ (upd H d (.frz od (.dK kvs)))) : tLock t D σ H := ⟨d, _, h, trivial, k⟩
theorem s_dput {td ty tv : TE} {D : Ends} {σ : St} (h : tv σ H fun v H1 => td σ H1 fun x H2 => ty σ H2 fun y H3 => ∃ a H4, x = .ref a ∧ DPut H3 a y v H4 ∧ D.nx σ H4) : sDPut td ty tv D σ H := h
end
end My

/-! ### offsets of a hidden step -/
namespace My
open PySem L2
theorem Pipe.iv {p : Pipe} (hp : p.pos) (x y : Int) : p.val x = y ↔ p.first y ≤ x ∧ x ≤ p.last y := by
  have g1 := Pipe.gal hp (x := x) (y := y)
  have g2 := Pipe.gal hp (x := x) (y := y + 1)
  unfold Pipe.last
  omega
/-- low and high after one more sample, or none -/
def obS (pre post : Pipe) (k m : Int) (o : Option (Int × Int)) (z : Pt) : Option (Int × Int) := match o with
  | none => none
  | some (l, h) => if post.first z.2 ≤ post.last z.2 then
      some (if m * post.first z.2 - k * pre.val z.1 > l then m * post.first z.2 - k * pre.val z.1 else l, if m * post.last z.2 + m - 1 - k * pre.val z.1 < h then m * post.last z.2 + m - 1 - k * pre.val z.1 else h) else none
def obL (pre post : Pipe) (k m : Int) (zs : List Pt) : Option (Int × Int) := zs.foldl (obS pre post k m) (some (-1000000000, 1000000000))
theorem obL_snoc (pre post : Pipe) (k m : Int) (zs : List Pt) (z : Pt) : obL pre post k m (zs ++ [z]) = obS pre post k m (obL pre post k m zs) z := by
  unfold obL; rw [List.foldl_append]; rfl
theorem obL_none {pre post : Pipe} {k m : Int} : ∀ zs : List Pt, zs.foldl (obS pre post k m) none = none
  | [] => rfl
  | _ :: zs => obL_none zs
theorem obL_bad {pre post : Pipe} {k m : Int} {zs : List Pt} {i : Nat} {z : Pt} (h : zs[i]? = some z) (hz : ¬ post.first z.2 ≤ post.last z.2) : obL pre post k m zs = none := by
  have e : zs = zs.take (i + 1) ++ zs.drop (i + 1) := (List.take_append_drop _ _).symm
  rw [e, take_succ_of h]
  unfold obL
  rw [List.foldl_append, List.foldl_append]
  have : List.foldl (obS pre post k m) (List.foldl (obS pre post k m) (some (-1000000000, 1000000000)) (zs.take i)) [z] = none := by
    show obS pre post k m _ z = none
    unfold obS
    split
    · rfl
    · rw [if_neg hz]
  rw [this, obL_none]
/-- one sample fits just between its bounds -/
theorem one_fits {pre post : Pipe} (hp : post.pos) {k m c x y : Int} (hm : 0 < m) : post.val ((Step.sc k m c).val (pre.val x)) = y ↔ m * post.first y - k * pre.val x ≤ c ∧ c ≤ m * post.last y + m - 1 - k * pre.val x := by
  rw [Pipe.iv hp]
  show post.first y ≤ (k * pre.val x + c) / m ∧ (k * pre.val x + c) / m ≤ post.last y ↔ _
  have h2 : (k * pre.val x + c) / m ≤ post.last y ↔ k * pre.val x + c < (post.last y + 1) * m := by rw [← Int.ediv_lt_iff_lt_mul hm]; omega
  rw [Int.le_ediv_iff_mul_le hm, h2, Int.add_mul, Int.mul_comm _ m, Int.mul_comm _ m]
  omega
theorem obL_fits {pre post : Pipe} (hp : post.pos) {k m : Int} (hm : 0 < m) (zs : List Pt) (c : Int) (hc : -1000000000 ≤ c ∧ c ≤ 1000000000) :
    fitsB (pre ++ [.sc k m c] ++ post) zs = true ↔ ∃ l h, obL pre post k m zs = some (l, h) ∧ l ≤ c ∧ c ≤ h := by
  suffices H : ∀ n, n ≤ zs.length → ((∀ z ∈ zs.take n, (pre ++ [.sc k m c] ++ post : Pipe).val z.1 = z.2) ↔ ∃ l h, obL pre post k m (zs.take n) = some (l, h) ∧ l ≤ c ∧ c ≤ h) by
    have := H zs.length (Nat.le_refl _)
    rw [List.take_length] at this
    rw [← this]
    unfold fitsB
    rw [List.all_eq_true]
    simp
  intro n
  induction n with
  | zero =>
    intro _
    rw [List.take_zero]
    exact ⟨fun _ => ⟨_, _, rfl, hc.1, hc.2⟩, fun _ z hz => by simp at hz⟩
  | succ n ih =>
    intro hn
    have hz : zs[n]? = some zs[n] := List.getElem?_eq_getElem (by omega)
    rw [take_succ_of hz, obL_snoc]
    have ih := ih (by omega)
    have hv : (pre ++ [.sc k m c] ++ post : Pipe).val zs[n].1 = post.val ((Step.sc k m c).val (pre.val zs[n].1)) := by rw [Pipe.val_append, Pipe.val_append]; rfl
    have h1 := one_fits hp (pre := pre) (k := k) (c := c) (x := zs[n].1) (y := zs[n].2) hm
    constructor
    · intro h
      obtain ⟨l, hh, e, a1, a2⟩ := ih.mp fun z hz' => h z (List.mem_append_left _ hz')
      have hfit := h zs[n] (List.mem_append_right _ (List.mem_singleton.mpr rfl))
      rw [hv] at hfit
      have hb := h1.mp hfit
      have hiv := (Pipe.iv hp _ _).mp hfit
      rw [e]
      unfold obS
      dsimp only
      rw [if_pos (by omega)]
      refine ⟨_, _, rfl, ?_, ?_⟩
      · split <;> omega
      · split <;> omega
    · rintro ⟨l, hh, e, a1, a2⟩
      cases ho : obL pre post k m (zs.take n) with
      | none => rw [ho] at e; cases e
      | some lh =>
        obtain ⟨l0, h0⟩ := lh
        rw [ho] at e
        unfold obS at e
        dsimp only at e
        split at e
        · simp only [Option.some.injEq, Prod.mk.injEq] at e
          obtain ⟨e1, e2⟩ := e
          have b1 : l0 ≤ c ∧ m * post.first zs[n].2 - k * pre.val zs[n].1 ≤ c := by split at e1 <;> omega
          have b2 : c ≤ h0 ∧ c ≤ m * post.last zs[n].2 + m - 1 - k * pre.val zs[n].1 := by split at e2 <;> omega
          intro z hz'
          rcases List.mem_append.mp hz' with h | h
          · exact ih.mpr ⟨l0, h0, ho, b1.1, b2.1⟩ z h
          · rw [List.mem_singleton.mp h, hv]
            exact h1.mpr ⟨b1.2, b2.2⟩
        · cases e
def obB (pre post : Pipe) (k m : Int) (zs : List Pt) : Option (Int × Int) := match obL pre post k m zs with
  | none => none
  | some (l, h) => if l ≤ h then some (l, h) else none
def obD : Option (Int × Int) → PyData
  | none => .none
  | some (l, h) => .tuple [.int l, .int h]
theorem obB_fits {pre post : Pipe} (hp : post.pos) {k m : Int} (hm : 0 < m) (zs : List Pt) (c : Int) (hc : -1000000000 ≤ c ∧ c ≤ 1000000000) :
    fitsB (pre ++ [.sc k m c] ++ post) zs = true ↔ ∃ l h, obB pre post k m zs = some (l, h) ∧ l ≤ c ∧ c ≤ h := by
  rw [obL_fits hp hm zs c hc]
  unfold obB
  constructor
  · rintro ⟨l, h, e, a1, a2⟩
    rw [e]
    exact ⟨l, h, if_pos (by omega), a1, a2⟩
  · rintro ⟨l, h, e, a1, a2⟩
    split at e
    · cases e
    · rename_i l0 h0 e0
      split at e
      · cases e; exact ⟨l, h, e0, a1, a2⟩
      · cases e
end My
namespace My
open PySem L2
/-! ### the rows of hidden_steps -/
abbrev Row := Int × Int × Int × Int
def rowL (r : Row) : List Int := [r.1, r.2.1, r.2.2.1, r.2.2.2]
def RowAt (K : PySem.W.Frag) (H : Hp) (v : V) (r : Row) : Prop := ∃ a, v = .ref a ∧ SqT K H a ((rowL r).map V.int)
section
variable {K : PySem.W.Frag} {H H' : Hp} {a p b d : Addr} {o : HO} {xs ys : List V} {v : V} {r : Row}
theorem RowAt.keep (e : TKeep K H H') (h : RowAt K H v r) : RowAt K H' v r := by
  obtain ⟨a, q, h⟩ := h
  exact ⟨a, q, e _ _ h⟩
theorem RowAt.hs (e : Same H H') (h : RowAt K H v r) : RowAt K H' v r := h.keep (.ofSame e)
theorem RowAt.hu (n : H p = none) (h : RowAt K H v r) : RowAt K (L2.upd H p o) v r := h.hs (Same.up (Same.refl _) n)
theorem RowAt.hl (n : H p = some (.lst ys)) (h : RowAt K H v r) : RowAt K (L2.upd H p o) v r := h.keep (TKeep.upL .refl n)
theorem RowAt.hb (e : Bs K b d H H') (h : RowAt K H v r) : RowAt K H' v r := h.keep e.keep
theorem RowAt.new {a : Addr} {k m l h : Int} : RowAt K (L2.upd H a (.tup [.int k, .int m, .int l, .int h])) (.ref a) (k, m, l, h) := ⟨a, rfl, SqT.new⟩
theorem obD_at {o : Option (Int × Int)} {v : V} (h : Dp K H v (obD o)) (hn : v ≠ .non) : ∃ c l u, v = .ref c ∧ o = some (l, u) ∧ SqT K H c [.int l, .int u] := by
  cases o with
  | none => cases h; exact absurd rfl hn
  | some lh =>
    obtain ⟨l, u⟩ := lh
    cases h with
    | tup h a => cases a with | cons h1 a => cases a with | cons h2 a => cases a; cases h1; cases h2; exact ⟨_, l, u, rfl, rfl, h⟩
theorem obD_no {o : Option (Int × Int)} (h : Dp K H .non (obD o)) : o = none := by
  cases o with
  | none => rfl
  | some lh => cases h
theorem shaped_obD (o : Option (Int × Int)) : SeqAt.shaped (obD o) = true := by
  cases o with
  | none => rfl
  | some lh => simp [obD, SeqAt.shaped, PyData.canLay0, PyData.canLayAll0, PyData.depth, PyData.depthAll]
end
def hidO (p : Pipe) (n : Nat) (zs : List Pt) (k m : Int) : Option Row := if (repP p (.sc k m 0) n).ok then (obB (p.take n) (p.drop (n + 1)) k m zs).map fun lh => (k, m, lh.1, lh.2) else none
def hidR (p : Pipe) (n : Nat) (zs : List Pt) (k : Int) (j : Nat) : List Row := (List.range j).filterMap fun (j : Nat) => hidO p n zs k (1 + (j : Int))
def hidP (p : Pipe) (n : Nat) (zs : List Pt) (i : Nat) : List Row := (List.range i).flatMap fun (i : Nat) => hidR p n zs (1 + (i : Int)) 12
abbrev hidL (p : Pipe) (n : Nat) (zs : List Pt) : List Row := hidP p n zs 12
theorem hidR_yes {p : Pipe} {n : Nat} {zs : List Pt} {k : Int} {j : Nat} {r : Row} (h : hidO p n zs k (1 + (j : Int)) = some r) : hidR p n zs k (j + 1) = hidR p n zs k j ++ [r] := by
  unfold hidR; rw [List.range_succ, List.filterMap_append]; simp [h]
theorem hidR_no {p : Pipe} {n : Nat} {zs : List Pt} {k : Int} {j : Nat} (h : hidO p n zs k (1 + (j : Int)) = none) : hidR p n zs k (j + 1) = hidR p n zs k j := by
  unfold hidR; rw [List.range_succ, List.filterMap_append]; simp [h]
theorem hidP_succ (p : Pipe) (n : Nat) (zs : List Pt) (i : Nat) : hidP p n zs (i + 1) = hidP p n zs i ++ hidR p n zs (1 + (i : Int)) 12 := by
  unfold hidP; rw [List.range_succ, List.flatMap_append]; simp
theorem hidR_len (p : Pipe) (n : Nat) (zs : List Pt) (k : Int) (j : Nat) : (hidR p n zs k j).length ≤ j := by
  have := List.length_filterMap_le (fun j : Nat => hidO p n zs k (1 + (j : Int))) (List.range j)
  rw [List.length_range] at this
  exact this
theorem hidP_len (p : Pipe) (n : Nat) (zs : List Pt) : ∀ i, (hidP p n zs i).length ≤ 12 * i
  | 0 => Nat.le_refl _
  | i + 1 => by
    rw [hidP_succ, List.length_append]
    have h1 := hidP_len p n zs i
    have h2 := hidR_len p n zs (1 + (i : Int)) 12
    omega
theorem hidO_eq {p : Pipe} {n : Nat} {zs : List Pt} {k m : Int} {r : Row} : hidO p n zs k m = some r ↔ (repP p (.sc k m 0) n).ok ∧ r.1 = k ∧ r.2.1 = m ∧ obB (p.take n) (p.drop (n + 1)) k m zs = some (r.2.2.1, r.2.2.2) := by
  obtain ⟨r1, r2, r3, r4⟩ := r
  unfold hidO
  split
  · rename_i h
    cases obB (p.take n) (p.drop (n + 1)) k m zs with
    | none => simp
    | some lh =>
      obtain ⟨l, u⟩ := lh
      simp only [Option.map_some, Option.some.injEq, Prod.mk.injEq, h, true_and]
      constructor
      · rintro ⟨rfl, rfl, rfl, rfl⟩; exact ⟨rfl, rfl, rfl, rfl⟩
      · rintro ⟨rfl, rfl, rfl, rfl⟩; exact ⟨rfl, rfl, rfl, rfl⟩
  · rename_i h
    exact ⟨fun e => (by cases e), fun e => absurd e.1 h⟩
theorem hid_mem {p : Pipe} {n : Nat} {zs : List Pt} {r : Row} : r ∈ hidL p n zs ↔ (1 ≤ r.1 ∧ r.1 ≤ 12) ∧ (1 ≤ r.2.1 ∧ r.2.1 ≤ 12) ∧ (repP p (.sc r.1 r.2.1 0) n).ok ∧ obB (p.take n) (p.drop (n + 1)) r.1 r.2.1 zs = some (r.2.2.1, r.2.2.2) := by
  show r ∈ hidP p n zs 12 ↔ _
  unfold hidP hidR
  simp only [List.mem_flatMap, List.mem_filterMap, List.mem_range, hidO_eq]
  constructor
  · rintro ⟨i, hi, j, hj, ok, e1, e2, e3⟩
    rw [e1, e2]
    exact ⟨by omega, by omega, ok, e3⟩
  · rintro ⟨⟨a1, a2⟩, ⟨b1, b2⟩, ok, e⟩
    refine ⟨(r.1 - 1).toNat, by omega, (r.2.1 - 1).toNat, by omega, ?_⟩
    have e1 : 1 + ((r.1 - 1).toNat : Int) = r.1 := by omega
    have e2 : 1 + ((r.2.1 - 1).toNat : Int) = r.2.1 := by omega
    rw [e1, e2]
    exact ⟨ok, rfl, rfl, e⟩
/-- no two rows of one key -/
theorem hid_key {p : Pipe} {n : Nat} {zs : List Pt} {r t : Row} (h : r ∈ hidL p n zs) (h' : t ∈ hidL p n zs) (e1 : r.1 = t.1) (e2 : r.2.1 = t.2.1) : r = t := by
  obtain ⟨_, _, _, a⟩ := hid_mem.mp h
  obtain ⟨_, _, _, b⟩ := hid_mem.mp h'
  rw [e1, e2, b] at a
  simp only [Option.some.injEq, Prod.mk.injEq] at a
  obtain ⟨r1, r2, r3, r4⟩ := r
  obtain ⟨t1, t2, t3, t4⟩ := t
  simp only at e1 e2 a
  rw [e1, e2, ← a.1, ← a.2]
theorem obL_yes {pre post : Pipe} {k m l u : Int} {zs : List Pt} {i : Nat} {z : Pt} (ez : zs[i]? = some z) (h : obL pre post k m (zs.take i) = some (l, u)) (hz : post.first z.2 ≤ post.last z.2) :
    obL pre post k m (zs.take (i + 1)) = some (if m * post.first z.2 - k * pre.val z.1 > l then m * post.first z.2 - k * pre.val z.1 else l, if m * post.last z.2 + m - 1 - k * pre.val z.1 < u then m * post.last z.2 + m - 1 - k * pre.val z.1 else u) := by
  rw [take_succ_of ez, obL_snoc, h]
  exact if_pos hz
theorem obB_bad {pre post : Pipe} {k m : Int} {zs : List Pt} {i : Nat} {z : Pt} (h : zs[i]? = some z) (hz : ¬ post.first z.2 ≤ post.last z.2) : obB pre post k m zs = none := by
  unfold obB; rw [obL_bad h hz]
theorem obB_some {pre post : Pipe} {k m l u : Int} {zs : List Pt} (h : obL pre post k m zs = some (l, u)) (hz : l ≤ u) : obB pre post k m zs = some (l, u) := by
  unfold obB; rw [h]; exact if_pos hz
theorem obB_none {pre post : Pipe} {k m l u : Int} {zs : List Pt} (h : obL pre post k m zs = some (l, u)) (hz : ¬ l ≤ u) : obB pre post k m zs = none := by
  unfold obB; rw [h]; exact if_neg hz
theorem ivD_at {K : PySem.W.Frag} {H : Hp} {v : V} {p : Pipe} {y : Int} (h : Dp K H v (ivD p y)) (hn : v ≠ .non) : p.first y ≤ p.last y ∧ ∃ c, v = .ref c ∧ SqT K H c [.int (p.first y), .int (p.last y)] := by
  have hl : p.first y ≤ p.last y := by
    have := mt (iv_non h).mpr hn
    omega
  rw [ivD, if_pos hl] at h
  cases h with
  | tup h a => cases a with | cons h1 a => cases a with | cons h2 a => cases a; cases h1; cases h2; exact ⟨hl, _, rfl, h⟩
end My

/-! ### dict(pairs) with keys that are tuples of ints: own rule over KE.KDictPairs -/
namespace My
open PySem L2
def mergeT (kvs more : List (List Key × V)) : List (List Key × V) := more.foldl (fun acc kv => putK acc kv.1 kv.2) kvs
theorem length_mergeT : ∀ (more kvs : List (List Key × V)), (mergeT kvs more).length ≤ kvs.length + more.length
  | [], kvs => by show kvs.length ≤ kvs.length + 0; omega
  | p :: r, kvs => by
    have h1 := length_mergeT r (putK kvs p.1 p.2)
    have h2 := length_putK kvs p.1 p.2
    show (mergeT (putK kvs p.1 p.2) r).length ≤ _
    rw [List.length_cons]; omega
theorem KT.merge {H : Hp} : ∀ {more : List (List Key × V)} {rs : List (List Key × Addr × Value)} {kvs : List (List Key × V)} {xs : List (List Key × Addr × Value)}, KT H more rs → KT H kvs xs → KT H (mergeT kvs more) (storedAllH xs rs) := by
  intro more rs kvs xs r
  induction r generalizing kvs xs with
  | nil => intro q; exact q
  | @cons p q ps qs h t ih =>
    intro r0
    obtain ⟨h1, h2, h3⟩ := h
    have e : KT H (putK kvs p.1 p.2) (storedH xs q.1 q.2.1 q.2.2) := by
      rw [← h1]; exact r0.put p.1 h2 h3
    exact ih e
def rDictT (K : PySem.W.Frag) : List V → Hp → VK → Prop := fun xs H Q => ∃ (a : Addr) (ps : List Addr) (kvs : List (List Key × V)), xs = [.ref a] ∧ SqL K H a (ps.map V.ref) ∧
  Paired (fun p kv => ∃ c, SqT K H p [.ref c, kv.2] ∧ H c = some (.tup (kv.1.map kV))) ps kvs ∧ ∀ p, H p = none → Q (.ref p) (upd H p (.dT (mergeT [] kvs)))
section
variable {X : Cx} {K : PySem.W.Frag}
theorem tpairs_of {pins : List (Addr × Obj)} {σ : St} {H : Hp} {s : Shared} (I : Inv X pins σ H s) : ∀ {ps : List Addr} {kvs : List (List Key × V)}, Paired (fun p kv => ∃ c, SqT X.K H p [.ref c, kv.2] ∧ H c = some (.tup (kv.1.map kV))) ps kvs →
    ∃ rs : List (List Key × Addr × Value), KT H kvs rs ∧ rs.length = ps.length ∧ ∀ (j : Nat) (q : List Key × Addr × Value), rs[j]? = some q → ∃ b, ps[j]? = some b ∧ s.heap.IsTuple b #[.ref q.2.1, q.2.2] ∧ (tupleKind (mixKind X.prog X.w)).is s.heap q.1 q.2.1
  | _, _, .nil => ⟨[], .nil, rfl, fun j q e => by simp at e⟩
  | _, _, .cons (a := p) (b := kv) h t => by
    obtain ⟨rs, r, hl, hp⟩ := tpairs_of I t
    obtain ⟨c, hT, hc⟩ := h
    obtain ⟨its, rv, ht, _⟩ := I.tuple hT
    obtain ⟨u, y, ei, ru, ry⟩ := vals2 rv
    subst ei
    cases (show u = Value.ref c from ru)
    refine ⟨(kv.1, c, y) :: rs, .cons ⟨rfl, hc, ry⟩ r, by rw [List.length_cons, List.length_cons, hl], fun j q e => ?_⟩
    cases j with
    | zero =>
      have e' : (kv.1, c, y) = q := Option.some.inj e
      subst e'
      exact ⟨p, rfl, ht, key_of I.hok hc⟩
    | succ j =>
      obtain ⟨b, e1, e2, e3⟩ := hp j q (by simpa using e)
      exact ⟨b, by simpa using e1, e2, e3⟩
theorem kdictT0 (hcalm : X.calm = true) (hu : X.A.units + 64 < cLine) : CallR X (.type "dict") (rDictT X.K) := by
  intro pins s σ H xs us Q I r q
  obtain ⟨a, ps, kvs, ex, hq, hp, q⟩ := q
  subst ex
  obtain ⟨u, eu, rx⟩ := vals1 r
  subst eu
  cases rx
  obtain ⟨its, rv, pl, hz⟩ := I.list hq
  have ei := refs_at rv
  subst ei
  rw [List.length_map] at hz
  obtain ⟨rs, rel, hl, hpr⟩ := tpairs_of I hp
  obtain ⟨o, n, ho, hc, hd, hdat⟩ := pl
  have hn := I.hok.fresh (Nat.le_refl s.heap.objs.size)
  refine PySem.call_dict_pairsH (knd := tupleKind (mixKind X.prog X.w)) (ps := rs) (PairArg.list a (ps.map Value.ref).toArray (fun j => ps.getD j 0) (rs.map fun x => (Value.ref x.2.1, x.2.2))) (I.ok.hd hcalm)
    (tupleKind_room_in1 (A := X.A.in1) (by show X.A.units + 1 + 1 < cLine; omega)) ⟨⟨o, n, ho, hc, hd, hdat⟩, by simp [hl], fun j k v hj => ?_⟩ ⟨by rw [List.length_map], fun i key v hi => ?_⟩ (fun h' hk x hx => ?_) (by rw [List.length_map, hl]; exact hz) fun h' tk hd' hk => ?_
  · rw [List.getElem?_map, Option.map_eq_some_iff] at hj
    obtain ⟨x, ex, e⟩ := hj
    cases e
    obtain ⟨b, eb, htup, _⟩ := hpr j x ex
    refine ⟨?_, .inl ?_⟩
    · simp [List.getElem?_map, eb, List.getD]
    · simp only [List.getD, eb, Option.getD_some]
      exact htup
  · have hi' : (rs.map fun x => (Value.ref x.2.1, x.2.2))[i]? = some (key, v) := hi
    rw [List.getElem?_map, Option.map_eq_some_iff] at hi'
    obtain ⟨x, ex, e⟩ := hi'
    cases e
    exact ⟨x.1, x.2.1, ex, rfl⟩
  · obtain ⟨j, hj⟩ := List.getElem?_of_mem hx
    obtain ⟨b, _, _, o', items, n', h1, h2⟩ := hpr j x hj
    exact ⟨o', items, n', hk _ _ (Nat.ne_of_lt (Heap.lt_size h1)) (by simp) h1, h2⟩
  · have hm : (s.heap.objs.size == sysModules) = false := beq_eq_false_iff_ne.mpr (Nat.ne_of_gt I.big)
    have hlen : (mergeT [] kvs).length ≤ sizeLine := by
      refine Nat.le_trans (length_mergeT kvs []) ?_
      rw [List.length_nil, Nat.zero_add, Paired.length rel, hl]
      exact hz
    obtain ⟨o2, es, ep, g1, g2, g3, g4, _, g5⟩ := hd'
    have hKT : KT (upd H s.heap.objs.size (.dT (mergeT [] kvs))) (mergeT [] kvs) (storedAllH [] rs) := (KT.merge rel .nil).keeps fun b ys e => by
      rw [upd_ne (ne_of_none e hn)]; exact e
    exact ⟨.ref s.heap.objs.size, upd H s.heap.objs.size (.dT (mergeT [] kvs)), I.laid (t' := tk) (fun b u e => hk b u (by simp) e) (Nat.le_refl _) (show ObjOk X.prog X.w _ _ _ (.dT (mergeT [] kvs)) from ⟨hlen, hm, _, hKT, o2, es, ep, g1, g2, g3, g4, g5⟩), rfl, q _ hn⟩
theorem kdictT (hu : X.A.units + 64 < cLine) (hcalm : X.calm = true := by rfl) (h : X.K = K := by rfl) : CallR X (.type "dict") (rDictT K) := by subst h; exact kdictT0 hcalm hu
end
end My
namespace My
open PySem L2
/-! ### rows to a table -/
abbrev rkey (r : Row) : List Key := [kI r.1, kI r.2.1]
def RK (H H' : Hp) : Prop := ∀ a o, (∀ ys, o ≠ .lst ys) → H a = some o → H' a = some o
theorem RK.same {H H' : Hp} (h : Same H H') : RK H H' := fun a o _ e => h a o e
theorem RK.trans {H H' H2 : Hp} (h : RK H H') (h' : RK H' H2) : RK H H2 := fun a o n e => h' a o n (h a o n e)
theorem RK.updL {H : Hp} {l : Addr} {o : HO} {ys : List V} (hl : H l = some (.lst ys)) : RK H (L2.upd H l o) := fun a u n e => by
  rw [upd_ne (ne_of e hl (n ys))]; exact e
theorem sqT_rk {K : PySem.W.Frag} {H H' : Hp} {a : Addr} {xs : List V} (e : RK H H') (h : SqT K H a xs) : SqT K H' a xs := by
  rcases h with (h | ⟨ob, h⟩) | h
  · exact .inl (.inl (e _ _ (fun ys z => by cases z) h))
  · exact .inl (.inr ⟨ob, e _ _ (fun ys z => by cases z) h⟩)
  · exact .inr h
def PrAt (K : PySem.W.Frag) (H : Hp) (y : V) (r : Row) : Prop := ∃ p c d, y = .ref p ∧ SqT K H p [.ref c, .ref d] ∧ H c = some (.tup [.int r.1, .int r.2.1]) ∧ SqT K H d [.int r.2.2.1, .int r.2.2.2]
theorem PrAt.rk {K : PySem.W.Frag} {H H' : Hp} {y : V} {r : Row} (e : RK H H') (h : PrAt K H y r) : PrAt K H' y r := by
  obtain ⟨p, c, d, h1, h2, h3, h4⟩ := h
  exact ⟨p, c, d, h1, sqT_rk e h2, e _ _ (fun ys z => by cases z) h3, sqT_rk e h4⟩
section
variable {K : PySem.W.Frag} {σ : St} {H : Hp} {Q : VK} {te : TE} {tt : TT} {i0 i1 i2 i3 : Nat} {a : Addr} {xs : List V} {rows : List Row}
theorem ll_rows (F : Hp → V → Row → Prop) (hF : ∀ H H' v z, RK H H' → F H v z → F H' v z) (hS : SqL K H a xs) (hx : Paired (RowAt K H) xs rows) (hsz : rows.length < 16777216)
    (hw : ∀ x y z w, wipe (((((wipe σ [i0, i1, i2, i3]).set i0 (some x)).set i1 (some y)).set i2 (some z)).set i3 (some w)) [i0, i1, i2, i3] = wipe σ [i0, i1, i2, i3])
    (hs : ∀ (r : Row) (H' : Hp) (Q' : VK), r ∈ rows → Same H H' → (∀ v H4, Same H' H4 → F H4 v r → Q' v H4) → te (((((wipe σ [i0, i1, i2, i3]).set i0 (some (.int r.1))).set i1 (some (.int r.2.1))).set i2 (some (.int r.2.2.1))).set i3 (some (.int r.2.2.2))) H' Q')
    (hd : ∀ D H' ys, Same H H' → H' D = some (.lst ys) → Paired (F H') ys rows → H D = none → Q (.ref D) H') : LLoop (Itl K a) (gTup K 4 (gCons (gName i0) (gCons (gName i1) (gCons (gName i2) (gCons (gName i3) gNil))))) tYes te [i0, i1, i2, i3] σ H Q := by
  refine fun D hD => lc_list (K := K) (a := a) (xs := xs) (fun i H' => Same H H' ∧ ∃ ys, H' D = some (.lst ys) ∧ ys.length = i ∧ i ≤ rows.length ∧ Paired (F H') ys (rows.take i)) ⟨Same.up (Same.refl _) hD, [], upd_same, rfl, Nat.zero_le _, .nil⟩ (fun i H' _ h => SqL.same h.1 hS) (fun i x H' hxi h => ?_) (fun H' h => ?_)
  · obtain ⟨h1, ys, h2, h3, h4, h5⟩ := h
    obtain ⟨r, er, b, rfl, hb⟩ := Paired.get hx hxi
    have hlt : i < rows.length := (List.getElem?_eq_some_iff.mp er).1
    have hb' : SqT K H' b [.int r.1, .int r.2.1, .int r.2.2.1, .int r.2.2.2] := SqT.same h1 hb
    refine ⟨b, _, rfl, hb', rfl, _, _, rfl, _, _, rfl, _, _, rfl, _, _, rfl, rfl, hw _ _ _ _, ?_⟩
    show te _ H' _
    refine hs r H' _ (List.mem_of_getElem? er) h1 fun v H4 h4' hf => ⟨ys, h4' _ _ h2, by rw [PySem.sizeLine_eq]; omega, Same.upN (h1.trans h4') hD, ys ++ [v], upd_same, by rw [List.length_append, h3]; rfl, hlt, ?_⟩
    have ku : RK H4 (L2.upd H4 D (.lst (ys ++ [v]))) := RK.updL (h4' _ _ h2)
    rw [take_succ_of er]
    exact Paired.snoc (Paired.mapP h5 fun _ _ z => hF _ _ _ _ ((RK.same h4').trans ku) z) (hF _ _ _ _ ku hf)
  · obtain ⟨h1, ys, h2, h3, h4, h5⟩ := h
    rw [Paired.len hx, List.take_length] at h5
    exact hd D H' ys h1 h2 h5 hD
theorem ll_rowsF (c : Row → Bool) (hS : SqL K H a xs) (hx : Paired (RowAt K H) xs rows) (hsz : rows.length < 16777216)
    (hw : ∀ x, wipe ((wipe σ [i0]).set i0 (some x)) [i0] = wipe σ [i0])
    (ht : ∀ (b : Addr) (r : Row) (H' : Hp) (Q' : Bool → Hp → Prop), r ∈ rows → Same H H' → SqT K H' b [.int r.1, .int r.2.1, .int r.2.2.1, .int r.2.2.2] → (∀ H4, Same H' H4 → Q' (c r) H4) → tt ((wipe σ [i0]).set i0 (some (.ref b))) H' Q')
    (hs : ∀ (v : V) (H' : Hp) (Q' : VK), (∀ H4, Same H' H4 → Q' v H4) → te ((wipe σ [i0]).set i0 (some v)) H' Q')
    (hd : ∀ D H' ys, Same H H' → H' D = some (.lst ys) → Paired (RowAt K H') ys (rows.filter c) → H D = none → Q (.ref D) H') : LLoop (Itl K a) (gName i0) tt te [i0] σ H Q := by
  refine fun D hD => lc_list (K := K) (a := a) (xs := xs) (fun i H' => Same H H' ∧ ∃ ys, H' D = some (.lst ys) ∧ ys.length ≤ i ∧ i ≤ rows.length ∧ Paired (RowAt K H') ys ((rows.take i).filter c)) ⟨Same.up (Same.refl _) hD, [], upd_same, Nat.le_refl _, Nat.zero_le _, .nil⟩ (fun i H' _ h => SqL.same h.1 hS) (fun i x H' hxi h => ?_) (fun H' h => ?_)
  · obtain ⟨h1, ys, h2, h3, h4, h5⟩ := h
    obtain ⟨r, er, b, rfl, hb⟩ := Paired.get hx hxi
    have hlt : i < rows.length := (List.getElem?_eq_some_iff.mp er).1
    have hb' : SqT K H' b [.int r.1, .int r.2.1, .int r.2.2.1, .int r.2.2.2] := SqT.same h1 hb
    have e : (rows.take (i + 1)).filter c = (rows.take i).filter c ++ if c r = true then [r] else [] := by
      rw [take_succ_of er, List.filter_append]
      by_cases hc : c r = true
      · simp [hc]
      · simp [hc]
    refine ⟨hw _, ?_⟩
    show tt ((wipe σ [i0]).set i0 (some (.ref b))) H' _
    refine ht b r H' _ (List.mem_of_getElem? er) h1 hb' fun H3 h3' => ?_
    by_cases hc : c r = true
    · rw [if_pos hc]
      refine hs _ H3 _ fun H4 h4' => ⟨ys, h4' _ _ (h3' _ _ h2), by rw [PySem.sizeLine_eq]; omega, Same.upN ((h1.trans h3').trans h4') hD, ys ++ [.ref b], upd_same, by rw [List.length_append]; simp; omega, hlt, ?_⟩
      have ku : TKeep K H4 (L2.upd H4 D (.lst (ys ++ [.ref b]))) := TKeep.upL .refl (h4' _ _ (h3' _ _ h2))
      have kk : TKeep K H' (L2.upd H4 D (.lst (ys ++ [.ref b]))) := ((TKeep.ofSame h3').trans (TKeep.ofSame h4')).trans ku
      rw [e, if_pos hc]
      exact Paired.snoc (Paired.mapP h5 fun _ _ z => z.keep kk) ⟨b, rfl, kk _ _ hb'⟩
    · rw [if_neg hc]
      exact ⟨h1.trans h3', ys, h3' _ _ h2, by omega, hlt, by rw [e, if_neg hc, List.append_nil]; exact Paired.mapP h5 fun _ _ z => z.hs h3'⟩
  · obtain ⟨h1, ys, h2, h3, h4, h5⟩ := h
    rw [Paired.len hx, List.take_length] at h5
    exact hd D H' ys h1 h2 h5 hD
end
/-! ### what a table holds -/
theorem mergeT_val {j : List Key} {v : V} : ∀ (more acc : List (List Key × V)), valV (mergeT acc more) j = some v → (∃ kv ∈ more, kv.1 = j ∧ kv.2 = v) ∨ valV acc j = some v
  | [], acc, h => .inr h
  | p :: r, acc, h => by
    rcases mergeT_val r (putK acc p.1 p.2) h with ⟨kv, hm, e⟩ | h
    · exact .inl ⟨kv, List.mem_cons_of_mem _ hm, e⟩
    · rw [valV_put] at h
      by_cases e : j = p.1
      · rw [if_pos e] at h
        exact .inl ⟨p, List.mem_cons_self, e.symm, Option.some.inj h⟩
      · rw [if_neg e] at h
        exact .inr h
theorem mergeT_has {j : List Key} : ∀ (more acc : List (List Key × V)), ((valV acc j).isSome = true ∨ ∃ kv ∈ more, kv.1 = j) → (valV (mergeT acc more) j).isSome = true
  | [], acc, h => by
    rcases h with h | ⟨kv, hm, _⟩
    · exact h
    · cases hm
  | p :: r, acc, h => by
    refine mergeT_has r (putK acc p.1 p.2) ?_
    rw [valV_put]
    by_cases e : j = p.1
    · rw [if_pos e]; exact .inl rfl
    · rw [if_neg e]
      rcases h with h | ⟨kv, hm, e2⟩
      · exact .inl h
      · rcases List.mem_cons.mp hm with rfl | hm
        · exact absurd e2.symm e
        · exact .inr ⟨kv, hm, e2⟩
theorem putK_key {acc : List (List Key × V)} {k : List Key} {v : V} {kv : List Key × V} (h : kv ∈ putK acc k v) : kv.1 = k ∨ ∃ x ∈ acc, x.1 = kv.1 := by
  unfold putK at h
  split at h
  · obtain ⟨x, hx, rfl⟩ := List.mem_map.mp h
    refine .inr ⟨x, hx, ?_⟩
    split <;> rfl
  · rcases List.mem_append.mp h with h | h
    · exact .inr ⟨kv, h, rfl⟩
    · rw [List.mem_singleton.mp h]; exact .inl rfl
theorem mergeT_key {kv : List Key × V} : ∀ (more acc : List (List Key × V)), kv ∈ mergeT acc more → (∃ x ∈ more, x.1 = kv.1) ∨ ∃ x ∈ acc, x.1 = kv.1
  | [], acc, h => .inr ⟨kv, h, rfl⟩
  | p :: r, acc, h => by
    rcases mergeT_key r (putK acc p.1 p.2) h with ⟨x, hm, e⟩ | ⟨x, hm, e⟩
    · exact .inl ⟨x, List.mem_cons_of_mem _ hm, e⟩
    · rcases putK_key hm with e2 | ⟨y, hy, e2⟩
      · exact .inl ⟨p, List.mem_cons_self, e2.symm.trans e⟩
      · exact .inr ⟨y, hy, e2.trans e⟩
structure TabOf (K : PySem.W.Frag) (H : Hp) (kvs : List (List Key × V)) (rows : List Row) : Prop where
  key : ∀ kv ∈ kvs, ∃ r ∈ rows, kv.1 = rkey r
  val : ∀ k m v, valV kvs [kI k, kI m] = some v → ∃ r ∈ rows, r.1 = k ∧ r.2.1 = m ∧ ∃ d, v = .ref d ∧ SqT K H d [.int r.2.2.1, .int r.2.2.2]
  has : ∀ r ∈ rows, (valV kvs (rkey r)).isSome = true
  len : kvs.length ≤ rows.length
theorem rkey_inj {r : Row} {k m : Int} (h : rkey r = [kI k, kI m]) : r.1 = k ∧ r.2.1 = m := by
  unfold rkey kI at h
  injection h with h1 h2
  injection h2 with h2 _
  exact ⟨Sum.inl.inj h1, Sum.inl.inj h2⟩
theorem paired_memL {α β : Type} {F : α → β → Prop} {l : List α} {m : List β} (h : Paired F l m) : ∀ x ∈ l, ∃ y ∈ m, F x y := by
  induction h with
  | nil => intro x hx; cases hx
  | cons r t ih =>
    intro x hx
    rcases List.mem_cons.mp hx with rfl | hx
    · exact ⟨_, List.mem_cons_self, r⟩
    · obtain ⟨y, hy, e⟩ := ih x hx
      exact ⟨y, List.mem_cons_of_mem _ hy, e⟩
theorem paired_memR {α β : Type} {F : α → β → Prop} {l : List α} {m : List β} (h : Paired F l m) : ∀ y ∈ m, ∃ x ∈ l, F x y := by
  induction h with
  | nil => intro x hx; cases hx
  | cons r t ih =>
    intro x hx
    rcases List.mem_cons.mp hx with rfl | hx
    · exact ⟨_, List.mem_cons_self, r⟩
    · obtain ⟨y, hy, e⟩ := ih x hx
      exact ⟨y, List.mem_cons_of_mem _ hy, e⟩
theorem TabOf.mk' {K : PySem.W.Frag} {H : Hp} {kvs : List (List Key × V)} {rows : List Row} (h : Paired (fun (kv : List Key × V) r => kv.1 = rkey r ∧ ∃ d, kv.2 = .ref d ∧ SqT K H d [.int r.2.2.1, .int r.2.2.2]) kvs rows) : TabOf K H (mergeT [] kvs) rows where
  key := fun kv hk => by
    rcases mergeT_key kvs [] hk with ⟨x, hx, e⟩ | ⟨x, hx, _⟩
    · obtain ⟨r, hr, e2, _⟩ := paired_memL h x hx
      exact ⟨r, hr, e.symm.trans e2⟩
    · cases hx
  val := fun k m v hv => by
    rcases mergeT_val kvs [] hv with ⟨x, hx, e1, e2⟩ | hv
    · obtain ⟨r, hr, e3, d, e4, hd⟩ := paired_memL h x hx
      have := rkey_inj (e3.symm.trans e1)
      exact ⟨r, hr, this.1, this.2, d, e2.symm.trans e4, hd⟩
    · cases hv
  has := fun r hr => by
    obtain ⟨x, hx, e, _⟩ := paired_memR h r hr
    exact mergeT_has kvs [] (.inr ⟨x, hx, e⟩)
  len := by
    have := length_mergeT kvs []
    rw [List.length_nil, Nat.zero_add, Paired.length h] at this
    exact this
theorem TabOf.get {K : PySem.W.Frag} {H : Hp} {kvs : List (List Key × V)} {p : Pipe} {n : Nat} {zs : List Pt} {r : Row} (T : TabOf K H kvs (hidL p n zs)) (hr : r ∈ hidL p n zs) : ∃ d, valV kvs (rkey r) = some (.ref d) ∧ SqT K H d [.int r.2.2.1, .int r.2.2.2] := by
  obtain ⟨v, hv⟩ := Option.isSome_iff_exists.mp (T.has r hr)
  obtain ⟨r', hr', e1, e2, d, rfl, hd⟩ := T.val _ _ _ hv
  rw [hid_key hr' hr e1 e2] at hd
  exact ⟨d, hv, hd⟩
theorem TabOf.hs {K : PySem.W.Frag} {H H' : Hp} {kvs : List (List Key × V)} {rows : List Row} (T : TabOf K H kvs rows) (e : TKeep K H H') : TabOf K H' kvs rows :=
  ⟨T.key, fun k m v h => let ⟨r, a, b, c, d, e2, f⟩ := T.val k m v h; ⟨r, a, b, c, d, e2, e _ _ f⟩, T.has, T.len⟩
theorem prs_refs {K : PySem.W.Frag} {H : Hp} : ∀ {ys : List V} {rows : List Row}, Paired (PrAt K H) ys rows → ∃ (ps : List Addr) (kvs : List (List Key × V)), ys = ps.map V.ref ∧ Paired (fun p (kv : List Key × V) => ∃ c, SqT K H p [.ref c, kv.2] ∧ H c = some (.tup (kv.1.map kV))) ps kvs ∧ Paired (fun (kv : List Key × V) r => kv.1 = rkey r ∧ ∃ d, kv.2 = .ref d ∧ SqT K H d [.int r.2.2.1, .int r.2.2.2]) kvs rows
  | _, _, .nil => ⟨[], [], rfl, .nil, .nil⟩
  | _, _, .cons (b := r) h t => by
    obtain ⟨ps, kvs, e, h1, h2⟩ := prs_refs t
    obtain ⟨p, c, d, rfl, g1, g2, g3⟩ := h
    exact ⟨p :: ps, (rkey r, .ref d) :: kvs, by rw [e]; rfl, .cons ⟨c, g1, g2⟩ h1, .cons ⟨rfl, d, rfl, g3⟩ h2⟩
section
variable {K : PySem.W.Frag} {H : Hp} {Q : VK}
theorem r_dictT {a : Addr} {ys : List V} {rows : List Row} (hl : H a = some (.lst ys)) (hx : Paired (PrAt K H) ys rows) (q : ∀ p kvs, H p = none → TabOf K H kvs rows → Q (.ref p) (upd H p (.dT kvs))) : rDictT K [.ref a] H Q := by
  obtain ⟨ps, kvs, e, h1, h2⟩ := prs_refs hx
  subst e
  exact ⟨a, ps, kvs, rfl, SqL.of hl, h1, fun p hp => q p _ hp (TabOf.mk' h2)⟩
theorem dgetT {t b : Addr} {kvs : List (List Key × V)} {k m : Int} (h : Rd H t (.dT kvs)) (hb : H b = some (.tup [.int k, .int m])) : DGet H t (.ref b) (valV kvs [kI k, kI m]) := .inr ⟨kvs, [kI k, kI m], b, h, rfl, hb, rfl⟩
theorem r_slKM {a : Addr} {s : V} {k m c : Int} (h : SqT K H a [s, .int k, .int m, .int c]) (q : ∀ p, H p = none → Q (.ref p) (upd H p (.tup [.int k, .int m]))) : rSlA K (.ref a) (some 1) (some 3) H Q := by
  refine ⟨a, _, rfl, h, fun e => ?_, fun _ p hp => q p hp⟩
  have e1 := e.1
  simp [HT.sIx] at e1
theorem s_lockT {t : TS} {D : Ends} {σ : St} {d : Addr} {kvs : List (List Key × V)} (h : H d = some (.dT kvs)) (k : ∀ od, t ⟨fun σ' H' => H' d = some (.frz od (.dT kvs)) ∧ D.nx σ' (upd H' d (.dT kvs)), fun v H' => H' d = some (.frz od (.dT kvs)) ∧ D.rt v (upd H' d (.dT kvs)), fun σ' H' => H' d = some (.frz od (.dT kvs)) ∧ D.bk σ' (upd H' d (.dT kvs)), fun σ' H' => H' d = some (.frz od (.dT kvs)) ∧ D.ct σ' (upd H' d (.dT kvs))⟩ σ (upd H d (.frz od (.dT kvs)))) : tLock t D σ H := ⟨d, _, h, trivial, k⟩
/-- a loop over the keys of a locked table that changes nothing -/
theorem fl_keysT {d : Addr} {o : Obj} {kvs : List (List Key × V)} {g : TG} {tb : TS} {D : Ends} {σ : St} (Pv : St → Hp → Prop) (h0 : Pv σ H) (hH : ∀ σ' H', Pv σ' H' → H' d = some (.frz o (.dT kvs)))
    (hs : ∀ (q : Addr) (k : List Key) (v : V) σ' H', (k, v) ∈ kvs → H' q = some (.tup (k.map kV)) → Pv σ' H' → g (.ref q) σ' H' fun σ2 H2 => tb { D with nx := Pv, ct := Pv, bk := D.nx } σ2 H2) (hd : ∀ σ' H', Pv σ' H' → D.nx σ' H') : FLoop (Itkt d o kvs) g tb D σ H := by
  refine ⟨fun i m σ' H' => m = kvs.length - i ∧ i ≤ kvs.length ∧ Pv σ' H', ⟨_, rfl, Nat.zero_le _, h0⟩, ?_⟩
  rintro i m σ' H' ⟨rfl, hi, hP⟩
  by_cases hlt : i < kvs.length
  · refine .inr ⟨⟨hH _ _ hP, hlt⟩, Pv, fun σ3 H3 h => ⟨kvs.length - (i + 1), by omega, rfl, hlt, h⟩, ?_⟩
    rintro v H2 ⟨rfl, k, w, q, hk, rfl, hq⟩
    exact hs q k w σ' H2 (List.mem_of_getElem? hk) hq hP
  · refine .inl ⟨⟨hH _ _ hP, by omega⟩, hd _ _ hP⟩
end
end My

/-! ### hidden steps: plain facts -/
namespace My
open PySem L2
theorem obL_range {pre post : Pipe} {k m : Int} {l h : Int} : ∀ (zs : List Pt) (l0 h0 : Int), zs.foldl (obS pre post k m) (some (l0, h0)) = some (l, h) → l0 ≤ l ∧ h ≤ h0
  | [], l0, h0, e => by
    simp only [List.foldl_nil, Option.some.injEq, Prod.mk.injEq] at e
    omega
  | z :: zs, l0, h0, e => by
    rw [List.foldl_cons] at e
    unfold obS at e
    dsimp only at e
    split at e
    · have := obL_range zs _ _ e
      constructor
      · refine Int.le_trans ?_ this.1; split <;> omega
      · refine Int.le_trans this.2 ?_; split <;> omega
    · change List.foldl (obS pre post k m) none zs = _ at e
      rw [obL_none] at e; cases e
theorem obB_range {pre post : Pipe} {k m : Int} {l h : Int} {zs : List Pt} (e : obB pre post k m zs = some (l, h)) : -1000000000 ≤ l ∧ l ≤ h ∧ h ≤ 1000000000 := by
  unfold obB at e
  split at e
  · cases e
  · rename_i l0 h0 e0
    split at e
    · cases e
      have := obL_range zs _ _ e0
      omega
    · cases e
theorem fits_sub {p : Pipe} {zs ws : List Pt} (h : ∀ z ∈ zs, z ∈ ws) (hf : fitsB p ws = true) : fitsB p zs = true := by
  unfold fitsB at *
  rw [List.all_eq_true] at *
  exact fun z hz => hf z (h z hz)
/-- fewer samples: a wider interval -/
theorem obB_wider {pre post : Pipe} (hp : post.pos) {k m : Int} (hm : 0 < m) {zs ws : List Pt} (hs : ∀ z ∈ zs, z ∈ ws) {l h : Int} (e : obB pre post k m ws = some (l, h)) : ∃ l' h', obB pre post k m zs = some (l', h') ∧ l' ≤ l ∧ h ≤ h' := by
  have r := obB_range e
  have f1 := (obB_fits (pre := pre) hp (k := k) hm ws l (by omega)).mpr ⟨l, h, e, Int.le_refl _, r.2.1⟩
  have f2 := (obB_fits (pre := pre) hp (k := k) hm ws h (by omega)).mpr ⟨l, h, e, r.2.1, Int.le_refl _⟩
  obtain ⟨l1, h1, e1, a1, a2⟩ := (obB_fits (pre := pre) hp (k := k) hm zs l (by omega)).mp (fits_sub hs f1)
  obtain ⟨l2, h2, e2, b1, b2⟩ := (obB_fits (pre := pre) hp (k := k) hm zs h (by omega)).mp (fits_sub hs f2)
  rw [e1] at e2
  cases e2
  exact ⟨l1, h1, e1, a1, b2⟩
/-- a sample that the low end does not fit pushes it up -/
theorem obB_tell {pre post : Pipe} (hp : post.pos) {k m : Int} (hm : 0 < m) {zs ws : List Pt} (hs : ∀ z ∈ zs, z ∈ ws) {l h l' h' : Int} (e : obB pre post k m zs = some (l, h)) (e' : obB pre post k m ws = some (l', h')) {z : Pt} (hz : z ∈ ws)
    (hn : (pre ++ [.sc k m l] ++ post : Pipe).val z.1 ≠ z.2) : l < l' := by
  have r := obB_range e
  have r' := obB_range e'
  obtain ⟨l1, h1, e1, a1, a2⟩ := obB_wider hp hm hs e'
  rw [e] at e1
  cases e1
  refine Int.lt_of_not_ge fun hge => hn ?_
  have f := (obB_fits (pre := pre) hp (k := k) hm ws l (by omega)).mpr ⟨l', h', e', hge, by omega⟩
  unfold fitsB at f
  rw [List.all_eq_true] at f
  simpa using f z hz
theorem Step.bdB {s : Step} (h : s.ok) {x B : Int} (hx : -B ≤ x ∧ x ≤ B) : -(120 * B + 1000000000) ≤ s.val x ∧ s.val x ≤ 120 * B + 1000000000 := by
  cases s with
  | sc k m c =>
    obtain ⟨⟨k1, k2⟩, ⟨m1, m2⟩, c1, c2⟩ := h
    have a1 : k * x ≤ 120 * B := by
      have := Int.mul_le_mul_of_nonneg_left hx.2 (show 0 ≤ k by omega)
      have := Int.mul_le_mul_of_nonneg_right k2 (show 0 ≤ B by omega)
      omega
    have a2 : -(120 * B) ≤ k * x := by
      have := Int.mul_le_mul_of_nonneg_left hx.1 (show 0 ≤ k by omega)
      have := Int.mul_le_mul_of_nonneg_right k2 (show 0 ≤ B by omega)
      rw [Int.mul_neg] at *
      omega
    exact ediv_big (x := k * x + c) (P := m) (B := 120 * B + 1000000000) ⟨by omega, by omega⟩ (by omega)
  | ev m =>
    have := ediv_big (x := x) (P := m) (B := B) ⟨hx.1, hx.2⟩ (by have := h.1; omega)
    simp only [Step.val]
    split
    · omega
    · split <;> omega
theorem two_bd {p : Pipe} (ho : ∀ s ∈ p, s.ok) (hl : p.length ≤ 2) {x B : Int} (hx : -B ≤ x ∧ x ≤ B) : -(14400 * B + 121000000000) ≤ p.val x ∧ p.val x ≤ 14400 * B + 121000000000 := by
  match p, hl with
  | [], _ => show _ ≤ x ∧ x ≤ _; omega
  | [s], _ =>
    have := Step.bdB (ho s (by simp)) hx
    show _ ≤ s.val x ∧ s.val x ≤ _
    omega
  | [s, t], _ =>
    have h1 := Step.bdB (ho s (by simp)) hx
    have h2 := Step.bdB (ho t (by simp)) h1
    show _ ≤ t.val (s.val x) ∧ t.val (s.val x) ≤ _
    omega
theorem mid_bd {p q : Pipe} (hp : ∀ s ∈ p, s.ok) (hq : ∀ s ∈ q, s.ok) (lp : p.length ≤ 2) (lq : q.length ≤ 2) {k m c x : Int} (hk : 1 ≤ k ∧ k ≤ 12) (hm : 1 ≤ m) (hc : -1000000 ≤ c ∧ c ≤ 1000000) (hx : -1000 ≤ x ∧ x ≤ 1000) :
    -1000000000000000000 ≤ (p ++ [.sc k m c] ++ q : Pipe).val x ∧ (p ++ [.sc k m c] ++ q : Pipe).val x ≤ 1000000000000000000 := by
  have h1 := two_bd hp lp hx
  rw [Pipe.val_append, Pipe.val_append]
  have h2 : -(1465000000000 : Int) ≤ (Step.sc k m c).val (p.val x) ∧ (Step.sc k m c).val (p.val x) ≤ 1465000000000 := by
    have a1 : k * p.val x ≤ 12 * 122000000000 := by
      have := Int.mul_le_mul_of_nonneg_left (show p.val x ≤ 122000000000 by omega) (show 0 ≤ k by omega)
      omega
    have a2 : -(12 * 122000000000) ≤ k * p.val x := by
      have := Int.mul_le_mul_of_nonneg_left (show -122000000000 ≤ p.val x by omega) (show 0 ≤ k by omega)
      rw [Int.mul_neg] at this
      omega
    exact ediv_big (x := k * p.val x + c) (P := m) (B := 1465000000000) ⟨by omega, by omega⟩ (by omega)
  have h3 := two_bd hq lq h2
  show -1000000000000000000 ≤ q.val ((Step.sc k m c).val (p.val x)) ∧ _
  refine ⟨by omega, ?_⟩
  show q.val ((Step.sc k m c).val (p.val x)) ≤ _
  omega
end My
namespace My
open PySem L2
structure EndsOk (p q : Pipe) (k m c : Int) (zs : List Pt) : Prop where
  p2 : p.length ≤ 2
  q2 : q.length ≤ 2
  po : ∀ s ∈ p, s.ok
  qo : ∀ s ∈ q, s.ok
  p3 : p.prod ≤ 3
  q3 : q.prod ≤ 3
  k1 : 1 ≤ k ∧ k ≤ 12
  m1 : 1 ≤ m ∧ m ≤ 12
  c1 : -1000000 ≤ c ∧ c ≤ 1000000
  z1 : 1 ≤ zs.length ∧ zs.length ≤ 8
  zo : ∀ z ∈ zs, PtOk z
theorem oks_pos {p : Pipe} (h : ∀ s ∈ p, s.ok) : p.pos := fun s hs => (h s hs).pos
theorem EndsOk.mid {p q : Pipe} {k m c : Int} {zs : List Pt} (E : EndsOk p q k m c zs) {k' m' c' : Int} (hk : 1 ≤ k' ∧ k' ≤ 12) (hm : 1 ≤ m' ∧ m' ≤ 12) (hc : -1000000000 ≤ c' ∧ c' ≤ 1000000000) : (p ++ [.sc k' m' c'] ++ q : Pipe).ok := by
  refine ⟨?_, ?_, ?_⟩
  · have h1 := E.p2
    have h2 := E.q2
    show (p ++ [Step.sc k' m' c'] ++ q).length ≤ 6
    simp only [List.length_append, List.length_cons, List.length_nil]
    omega
  · intro s hs
    rcases List.mem_append.mp hs with h | h
    · rcases List.mem_append.mp h with h | h
      · exact E.po s h
      · rw [List.mem_singleton.mp h]
        exact ⟨by omega, by omega, by omega⟩
    · exact E.qo s h
  · rw [Pipe.prod_app, Pipe.prod_app]
    have h1 := Pipe.prod_pos' (oks_pos E.po)
    have h2 := Pipe.prod_pos' (oks_pos E.qo)
    have h3 := E.p3
    have h4 := E.q3
    have e : Pipe.prod [Step.sc k' m' c'] = m' := by simp [Pipe.prod, Step.per]
    rw [e]
    have a1 : p.prod * m' ≤ 3 * 12 := Int.mul_le_mul h3 hm.2 (by omega) (by omega)
    have a0 : 0 ≤ p.prod * m' := Int.mul_nonneg (by omega) (by omega)
    have a2 : p.prod * m' * q.prod ≤ 36 * 3 := Int.mul_le_mul a1 h4 (by omega) (by omega)
    omega
theorem mid_take (p q : Pipe) (s : Step) : (p ++ [s] ++ q : Pipe).take p.length = p := by simp
theorem mid_drop (p q : Pipe) (s : Step) : (p ++ [s] ++ q : Pipe).drop (p.length + 1) = q := by simp
theorem mid_rep (p q : Pipe) (s t : Step) : repP (p ++ [s] ++ q) t p.length = p ++ [t] ++ q := by
  unfold repP; rw [mid_take, mid_drop]
theorem hid_mid (p q : Pipe) (s t : Step) (zs : List Pt) : hidL (p ++ [s] ++ q) p.length zs = hidL (p ++ [t] ++ q) p.length zs := by
  unfold hidL hidP hidR hidO
  simp only [mid_take, mid_drop, mid_rep]
theorem mid_mem {p q : Pipe} {s : Step} {zs : List Pt} {r : Row} : r ∈ hidL (p ++ [s] ++ q) p.length zs ↔ (1 ≤ r.1 ∧ r.1 ≤ 12) ∧ (1 ≤ r.2.1 ∧ r.2.1 ≤ 12) ∧ (p ++ [.sc r.1 r.2.1 0] ++ q : Pipe).ok ∧ obB p q r.1 r.2.1 zs = some (r.2.2.1, r.2.2.2) := by
  rw [hid_mem, mid_take, mid_drop, mid_rep]
def rowD (r : Row) : PyData := .tuple ((rowL r).map PyData.int)
theorem RowAt.dp {K : PySem.W.Frag} {H : Hp} {v : V} {r : Row} (h : RowAt K H v r) : Dp K H v (rowD r) := by
  obtain ⟨a, rfl, h⟩ := h
  exact .tup h (.cons (.int _) (.cons (.int _) (.cons (.int _) (.cons (.int _) .nil))))
theorem dpAll_rows {K : PySem.W.Frag} {H : Hp} : ∀ {xs : List V} {rows : List Row}, Paired (RowAt K H) xs rows → DpAll K H xs (rows.map rowD)
  | _, _, .nil => .nil
  | _, _, .cons r t => .cons r.dp (dpAll_rows t)
theorem rows_lay : ∀ rows : List Row, PyData.canLayAll0 (rows.map rowD) = true ∧ PyData.depthAll (rows.map rowD) ≤ 1
  | [] => ⟨rfl, Nat.zero_le _⟩
  | r :: rows => by
    have h2 := rows_lay rows
    have h1 : (rowD r).canLay0 = true ∧ (rowD r).depth ≤ 1 := by simp [rowD, rowL, PyData.canLay0, PyData.canLayAll0, PyData.depth, PyData.depthAll]
    simp only [List.map_cons, PyData.canLayAll0, PyData.depthAll, h1.1, h2.1, Bool.and_self, true_and]
    omega
theorem shaped_rows (rows : List Row) : SeqAt.shaped (.list (rows.map rowD)) = true := by
  have h := rows_lay rows
  unfold SeqAt.shaped
  simp [PyData.canLay0, PyData.depth, h.1]; omega
theorem r_neNilR {K : PySem.W.Frag} {H : Hp} {Q : VK} {a b : Addr} {xs : List V} {rows : List Row} (h : SqL K H a xs) (hx : Paired (RowAt K H) xs rows) (h' : SqL K H b []) (q : Q (.bl (!decide (rows = []))) H) : rNeD K (.ref a) (.ref b) H Q :=
  r_neD (.lst h (dpAll_rows hx)) (.lst h' .nil) (shaped_rows rows) rfl (by rw [show PyData.eqv (.list (rows.map rowD)) (.list []) = decide (rows = []) from by cases rows <;> simp [PyData.eqv, PyData.eqvAll]]; exact q)
end My
namespace My
open PySem L2
theorem fl_dues {K : PySem.W.Frag} {a : Addr} {xs : List V} {g : TG} {tb : TS} {D : Ends} {σ : St} {H : Hp} (C : Int → Bool → Prop) (hS : SqT K H a xs) (hall : ∀ x ∈ xs, ∃ c i d, x = .ref c ∧ SqT K H c [.int i, .bl d] ∧ C i d) (Pv : St → Prop) (h0 : Pv σ)
    (hs : ∀ c i d σ' H', Same H H' → SqT K H' c [.int i, .bl d] → C i d → Pv σ' → g (.ref c) σ' H' fun σ2 H2 => tb { D with nx := fun σ3 H3 => Same H H3 ∧ Pv σ3, ct := fun σ3 H3 => Same H H3 ∧ Pv σ3, bk := D.nx } σ2 H2)
    (hd : ∀ σ' H', Same H H' → Pv σ' → D.nx σ' H') : FLoop (Itt K a) g tb D σ H := by
  refine fl_tup (xs := xs) (fun _ σ' H' => Same H H' ∧ Pv σ') ⟨Same.refl _, h0⟩ (fun _ _ _ _ h => SqT.hs h.1 hS) (fun i x σ' H' hx h => ?_) (fun σ' H' h => hd _ _ h.1 h.2)
  obtain ⟨c, j, d, rfl, hT, hc⟩ := hall x (List.mem_of_getElem? hx)
  exact hs c j d σ' H' h.1 (SqT.hs h.1 hT) hc h.2
end My
namespace My
open PySem L2
section
variable {K : PySem.W.Frag} {σ : St} {H : Hp} {Q : VK} {te : TE} {tt : TT} {i0 : Nat} {a : Addr} {xs : List V}
theorem ll_ptsF {zs : List Pt} (c : Pt → Bool) (hS : SqL K H a xs) (hx : Paired (PtAt K H) xs zs) (hsz : zs.length < 16777216)
    (hw : ∀ x, wipe ((wipe σ [i0]).set i0 (some x)) [i0] = wipe σ [i0])
    (ht : ∀ (b : Addr) (z : Pt) (H' : Hp) (Q' : Bool → Hp → Prop), z ∈ zs → Same H H' → SqT K H' b [.int z.1, .int z.2] → (∀ H4, Same H' H4 → Q' (c z) H4) → tt ((wipe σ [i0]).set i0 (some (.ref b))) H' Q')
    (hs : ∀ (v : V) (H' : Hp) (Q' : VK), (∀ H4, Same H' H4 → Q' v H4) → te ((wipe σ [i0]).set i0 (some v)) H' Q')
    (hd : ∀ D H' ys, Same H H' → H' D = some (.lst ys) → Paired (PtAt K H') ys (zs.filter c) → H D = none → Q (.ref D) H') : LLoop (Itl K a) (gName i0) tt te [i0] σ H Q := by
  refine fun D hD => lc_list (K := K) (a := a) (xs := xs) (fun i H' => Same H H' ∧ ∃ ys, H' D = some (.lst ys) ∧ ys.length ≤ i ∧ i ≤ zs.length ∧ Paired (PtAt K H') ys ((zs.take i).filter c)) ⟨Same.up (Same.refl _) hD, [], upd_same, Nat.le_refl _, Nat.zero_le _, .nil⟩ (fun i H' _ h => SqL.same h.1 hS) (fun i x H' hxi h => ?_) (fun H' h => ?_)
  · obtain ⟨h1, ys, h2, h3, h4, h5⟩ := h
    obtain ⟨r, er, b, rfl, hb⟩ := Paired.get hx hxi
    have hlt : i < zs.length := (List.getElem?_eq_some_iff.mp er).1
    have hb' : SqT K H' b [.int r.1, .int r.2] := SqT.same h1 hb
    have e : (zs.take (i + 1)).filter c = (zs.take i).filter c ++ if c r = true then [r] else [] := by
      rw [take_succ_of er, List.filter_append]
      by_cases hc : c r = true
      · simp [hc]
      · simp [hc]
    refine ⟨hw _, ?_⟩
    show tt ((wipe σ [i0]).set i0 (some (.ref b))) H' _
    refine ht b r H' _ (List.mem_of_getElem? er) h1 hb' fun H3 h3' => ?_
    by_cases hc : c r = true
    · rw [if_pos hc]
      refine hs _ H3 _ fun H4 h4' => ⟨ys, h4' _ _ (h3' _ _ h2), by rw [PySem.sizeLine_eq]; omega, Same.upN ((h1.trans h3').trans h4') hD, ys ++ [.ref b], upd_same, by rw [List.length_append]; simp; omega, hlt, ?_⟩
      have ku : TKeep K H4 (L2.upd H4 D (.lst (ys ++ [.ref b]))) := TKeep.upL .refl (h4' _ _ (h3' _ _ h2))
      have kk : TKeep K H' (L2.upd H4 D (.lst (ys ++ [.ref b]))) := ((TKeep.ofSame h3').trans (TKeep.ofSame h4')).trans ku
      rw [e, if_pos hc]
      exact Paired.snoc (Paired.mapP h5 fun _ _ z => z.keep kk) ⟨b, rfl, kk _ _ hb'⟩
    · rw [if_neg hc]
      exact ⟨h1.trans h3', ys, h3' _ _ h2, by omega, hlt, by rw [e, if_neg hc, List.append_nil]; exact Paired.mapP h5 fun _ _ z => z.hs h3'⟩
  · obtain ⟨h1, ys, h2, h3, h4, h5⟩ := h
    rw [Paired.len hx, List.take_length] at h5
    exact hd D H' ys h1 h2 h5 hD
theorem r_ixR {rows : List Row} {i : Int} (h : SqL K H a xs) (r : Paired (RowAt K H) xs rows) (h0 : 0 ≤ i) (hn : i < rows.length) (q : ∀ v r, RowAt K H v r → r ∈ rows → Q v H) : rIxL K (.ref a) (.int i) H Q := by
  obtain ⟨n, rfl⟩ := Int.eq_ofNat_of_zero_le h0
  have hl := Paired.len r
  have hx : n < xs.length := by omega
  obtain ⟨y, ey, hy⟩ := Paired.get r (List.getElem?_eq_getElem hx)
  exact r_ixL h (at_of (j := n) rfl (List.getElem?_eq_getElem hx)) (q _ y hy (List.mem_of_getElem? ey))
theorem samp_row {p q : Pipe} {k m c : Int} {zs : List Pt} (E : EndsOk p q k m c zs) (hv : ∀ z ∈ zs, z.2 = (p ++ [.sc k m c] ++ q : Pipe).val z.1) (s : Step) :
    ∃ l u, (k, m, l, u) ∈ hidL (p ++ [s] ++ q) p.length zs ∧ l ≤ c ∧ c ≤ u := by
  have hf : fitsB (p ++ [.sc k m c] ++ q) zs = true := by
    unfold fitsB
    rw [List.all_eq_true]
    intro z hz
    simp [hv z hz]
  have c1 := E.c1
  obtain ⟨l, u, e, a1, a2⟩ := (obB_fits (oks_pos E.qo) (by have := E.m1; omega) zs c (by omega)).mp hf
  exact ⟨l, u, mid_mem.mpr ⟨E.k1, E.m1, E.mid E.k1 E.m1 (by omega), e⟩, a1, a2⟩
/-- the first sample alone: wider -/
theorem first_wider {p q : Pipe} (hq : ∀ s ∈ q, s.ok) {s t : Step} {zs : List Pt} {r : Row} (h : r ∈ hidL (p ++ [s] ++ q) p.length zs) : ∃ l u, (r.1, r.2.1, l, u) ∈ hidL (p ++ [t] ++ q) p.length (zs.take 1) ∧ l ≤ r.2.2.1 ∧ r.2.2.2 ≤ u := by
  obtain ⟨a1, a2, a3, a4⟩ := mid_mem.mp h
  obtain ⟨l, u, e, b1, b2⟩ := obB_wider (oks_pos hq) (by omega) (fun z hz => List.mem_of_mem_take hz) a4
  exact ⟨l, u, mid_mem.mpr ⟨a1, a2, a3, e⟩, b1, b2⟩
end
end My
namespace My
open PySem L2
theorem r_neNilS {K : PySem.W.Frag} {H : Hp} {Q : VK} {a b : Addr} {zs : List Pt} (h : SampAt K H (.ref a) zs) (h' : SqT K H b []) (q : Q (.bl (!decide (zs = []))) H) : rNeD K (.ref a) (.ref b) H Q :=
  r_neD h.dp (Dp.tup h' .nil) (shaped_samp zs) rfl (by rw [show PyData.eqv (sampD zs) (.tuple []) = decide (zs = []) from by cases zs <;> simp [sampD, PyData.eqv, PyData.eqvAll]]; exact q)
end My
namespace My
open PySem L2
theorem EndsOk.midE {p q : Pipe} {k m c : Int} {zs : List Pt} (E : EndsOk p q k m c zs) : (p ++ [.ev 1] ++ q : Pipe).ok := by
  refine ⟨?_, ?_, ?_⟩
  · have h1 := E.p2
    have h2 := E.q2
    show (p ++ [Step.ev 1] ++ q).length ≤ 6
    simp only [List.length_append, List.length_cons, List.length_nil]
    omega
  · intro s hs
    rcases List.mem_append.mp hs with h | h
    · rcases List.mem_append.mp h with h | h
      · exact E.po s h
      · rw [List.mem_singleton.mp h]
        exact ⟨by omega, by omega⟩
    · exact E.qo s h
  · rw [Pipe.prod_app, Pipe.prod_app]
    have h1 := Pipe.prod_pos' (oks_pos E.po)
    have h2 := Pipe.prod_pos' (oks_pos E.qo)
    have h3 := E.p3
    have h4 := E.q3
    have e : Pipe.prod [Step.ev 1] = 1 := by decide +kernel
    rw [e, Int.mul_one]
    have a2 : p.prod * q.prod ≤ 3 * 3 := Int.mul_le_mul h3 h4 (by omega) (by omega)
    omega
theorem EndsOk.re {p q : Pipe} {k m c : Int} {zs ws : List Pt} (E : EndsOk p q k m c zs) (h1 : 1 ≤ ws.length ∧ ws.length ≤ 8) (h2 : ∀ z ∈ ws, PtOk z) : EndsOk p q k m c ws := ⟨E.p2, E.q2, E.po, E.qo, E.p3, E.q3, E.k1, E.m1, E.c1, h1, h2⟩
theorem mid_lt (p q : Pipe) (s : Step) : p.length < (p ++ [s] ++ q : Pipe).length := by simp only [List.length_append, List.length_cons, List.length_nil]; omega
end My
namespace My
open PySem L2
section
variable {σ : St} {H : Hp} {Q : VK} {ty td : TE}
theorem r_dnotin (h : ty σ H fun y H1 => td σ H1 fun x H2 => ∃ a o, x = .ref a ∧ DGet H2 a y o ∧ Q (.bl (!o.isSome)) H2) : tDNotIn ty td σ H Q := h
theorem r_dgetI (h : td σ H fun x H1 => ty σ H1 fun y H2 => ∃ a v, x = .ref a ∧ DGet H2 a y (some v) ∧ Q v H2) : tDGet td ty σ H Q := h
end
theorem dgetS {H : Hp} {t b : Addr} {kvs : List (List Key × V)} {k m : Int} {v : V} (h : Rd H t (.dT kvs)) (hb : H b = some (.tup [.int k, .int m])) (e : valV kvs [kI k, kI m] = some v) : DGet H t (.ref b) (some v) := by
  rw [← e]; exact dgetT h hb
theorem StepAt.sq {K : PySem.W.Frag} {H : Hp} {a : Addr} {k m c : Int} (h : StepAt K H (.ref a) (.sc k m c)) : SqT K H a [.str "scale", .int k, .int m, .int c] := by
  obtain ⟨_, e, h⟩ := h
  cases e
  exact h
end My
namespace My
open PySem L2
theorem paired_take1 {α β : Type} {F : α → β → Prop} {l : List α} {m : List β} (h : Paired F l m) : Paired F (l.take 1) (m.take 1) := by
  cases h with
  | nil => exact .nil
  | cons r t => exact .cons r .nil
theorem TKeep.updT {K : PySem.W.Frag} {H : Hp} {l : Addr} {o : HO} {kvs : List (List Key × V)} (hl : H l = some (.dT kvs)) : TKeep K H (L2.upd H l o) := fun a xs h => by
  rcases h with (h | ⟨ob, h⟩) | h
  · exact .inl (.inl (by rw [upd_ne (ne_of h hl (by intro z; cases z))]; exact h))
  · exact .inl (.inr ⟨ob, by rw [upd_ne (ne_of h hl (by intro z; cases z))]; exact h⟩)
  · exact .inr h
theorem same_unlock {H H' : Hp} {t : Addr} {u v : HO} (h : H t = some u) (hs : Same (L2.upd H t v) H') : Same H (L2.upd H' t u) := fun b x e => by
  by_cases hb : b = t
  · subst hb
    rw [upd_same]
    exact h.symm.trans e
  · rw [upd_ne hb]
    exact hs b x (by rw [upd_ne hb]; exact e)
end My

/-! ### sorted of a list of data: own rule over KE.SortData -/
namespace My
open PySem L2
theorem each_of {α β : Type} {R : α → β → Prop} {as : List α} {bs : List β} (h : Paired R as bs) : PySem.W.EachIs R as bs := by
  induction h with
  | nil => exact .nil
  | cons r _ ih => exact .cons r ih
abbrev RefD (K : PySem.W.Frag) (H : Hp) {β : Type} (enc : β → PyData) : V → β → Prop := fun x b => (∃ t, x = .ref t) ∧ Dp K H x (enc b)
def rSortG (K : PySem.W.Frag) {β : Type} (enc : β → PyData) : List V → Hp → VK → Prop := fun vs H Q => ∃ (a : Addr) (xs : List V) (bs : List β), vs = [.ref a] ∧ SqL K H a xs ∧ Paired (RefD K H enc) xs bs ∧
  PySem.W.AllAlike (bs.map enc) ∧ PySem.W.Sortable (bs.map enc) ∧ (∀ b ∈ bs, (enc b).depth ≤ 10) ∧ ∀ ys p, Paired (RefD K H enc) ys (bs.mergeSort (PySem.W.dataLe false enc)) → H p = none → Q (.ref p) (upd H p (.lst ys))
section
variable {X : Cx} {K : PySem.W.Frag} {β : Type} {enc : β → PyData}
theorem vals_refs {H : Hp} : ∀ {xs : List V} {its : List Value} {bs : List β}, Vals xs its → Paired (RefD K H enc) xs bs → Paired (fun (u : Value) b => ∃ t, u = .ref t ∧ Dp K H (.ref t) (enc b)) its bs
  | _, _, _, .nil, .nil => .nil
  | _, _, _, .cons r t, .cons h t' => by
    obtain ⟨⟨c, rfl⟩, hd⟩ := h
    cases r
    exact .cons ⟨c, rfl, hd⟩ (vals_refs t t')
theorem refs_vals {H : Hp} : ∀ {out : List Value} {bs : List β}, PySem.W.EachIs (fun (u : Value) b => ∃ t, u = .ref t ∧ Dp K H (.ref t) (enc b)) out bs → ∃ ys, Vals ys out ∧ Paired (RefD K H enc) ys bs
  | _, _, .nil => ⟨[], .nil, .nil⟩
  | _, _, .cons h t => by
    obtain ⟨c, rfl, hd⟩ := h
    obtain ⟨ys, h1, h2⟩ := refs_vals t
    exact ⟨.ref c :: ys, .cons rfl h1, .cons ⟨⟨c, rfl⟩, hd⟩ h2⟩
theorem ksortG0 (hu : X.A.units + 64 < cLine) : CallR X (.builtin "sorted") (rSortG X.K enc) := by
  intro pins s σ H vs us Q I r h
  obtain ⟨a, xs, bs, rfl, hs, hx, ha, hk, hd, q⟩ := h
  obtain ⟨its, rv, hl, hz⟩ := I.list hs
  rw [Vals.ref1 r]
  have hp := vals_refs rv hx
  have hlen : its.length = bs.length := Paired.len hp
  refine PySem.W.sorted_data (enc := enc) hl.isList (each_of hp) ((each_of hp).mono fun u b ⟨t, e, d⟩ => by subst e; exact Dp.reads I _ _ _ d rfl) ha hk (by rw [← hlen, ← rv.length]; exact hz) (fun b hb => by have := hd b hb; omega) fun out ho eo => ?_
  obtain ⟨ys, h1, h2⟩ := refs_vals eo
  obtain ⟨ep, he'⟩ := PyProof.Rows.sortedAll_at s.heap its out.toArray
  have hly : ys.length ≤ sizeLine := by rw [h1.length, ho, ← hlen, ← rv.length]; exact hz
  exact ⟨.ref _, upd H (s.heap.objs.size + 1) (.lst ys), I.laid (t' := s.toks) (fun _ _ => PyProof.Rows.sortedAll_old) (Nat.le_succ _) ⟨hly, out, ep, h1, he'⟩, rfl, q _ _ h2 (I.hok.fresh (Nat.le_succ _))⟩
theorem ksortG (K : PySem.W.Frag) (enc : β → PyData) (hu : X.A.units + 64 < cLine) (h : X.K = K := by rfl) : CallR X (.builtin "sorted") (rSortG K enc) := by subst h; exact ksortG0 hu
theorem kinD (K : PySem.W.Frag) (hu : X.A.units + 65 < cLine) (h : X.K = K := by rfl) : OpR X (compareOp .In) (rInD K) := by subst h; exact op_inD hu
end
theorem room65 {k : Nat} {A : Around} (r : Room k A) : A.units + 65 < cLine := by have := r.un; omega
/-! ### rows in order -/
theorem RowAt.ofDp {K : PySem.W.Frag} {H : Hp} {v : V} {r : Row} (h : Dp K H v (rowD r)) : RowAt K H v r := by
  cases h with
  | tup h a => cases a with | cons h1 a => cases a with | cons h2 a => cases a with | cons h3 a => cases a with | cons h4 a => cases a; cases h1; cases h2; cases h3; cases h4; exact ⟨_, rfl, h⟩
def rowBefore (r t : Row) : Prop := r.1 < t.1 ∨ (r.1 = t.1 ∧ r.2.1 < t.2.1)
theorem rowLe {r t : Row} (h : rowBefore r t) : PySem.W.dataLe false rowD r t = true := by
  show (!PySem.W.dataLt (.tuple ((rowL t).map .int)) (.tuple ((rowL r).map .int))) = true
  rw [PySem.W.dataLt_tuple]
  show (!PySem.W.rowLt ((rowL t).map .int) ((rowL r).map .int)) = true
  rw [PySem.W.dataLt_ints]
  have : ¬ rowL t < rowL r := by
    unfold rowL
    rw [List.cons_lt_cons_iff]
    rintro (h1 | ⟨h1, h2⟩)
    · rcases h with h | h <;> omega
    · rw [List.cons_lt_cons_iff] at h2
      rcases h with h | h
      · omega
      · rcases h2 with h2 | h2 <;> omega
  simp [this]
theorem hidR_rows {p : Pipe} {n : Nat} {zs : List Pt} {k : Int} {j : Nat} {r : Row} (h : r ∈ hidR p n zs k j) : r.1 = k ∧ r.2.1 ≤ j := by
  unfold hidR at h
  rw [List.mem_filterMap] at h
  obtain ⟨i, hi, e⟩ := h
  rw [List.mem_range] at hi
  obtain ⟨_, e1, e2, _⟩ := hidO_eq.mp e
  exact ⟨e1, by omega⟩
theorem hidR_ord (p : Pipe) (n : Nat) (zs : List Pt) (k : Int) : ∀ j, (hidR p n zs k j).Pairwise rowBefore
  | 0 => by simp [hidR]
  | j + 1 => by
    cases e : hidO p n zs k (1 + (j : Int)) with
    | none => rw [hidR_no e]; exact hidR_ord p n zs k j
    | some r =>
      rw [hidR_yes e, List.pairwise_append]
      refine ⟨hidR_ord p n zs k j, List.pairwise_singleton _ _, fun x hx y hy => ?_⟩
      rw [List.mem_singleton.mp hy]
      obtain ⟨_, e1, e2, _⟩ := hidO_eq.mp e
      have := hidR_rows hx
      exact .inr ⟨by omega, by omega⟩
theorem hidP_rows {p : Pipe} {n : Nat} {zs : List Pt} : ∀ {i : Nat} {r : Row}, r ∈ hidP p n zs i → r.1 ≤ i
  | 0, r, h => by simp [hidP] at h
  | i + 1, r, h => by
    rw [hidP_succ] at h
    rcases List.mem_append.mp h with h | h
    · have := hidP_rows h; omega
    · have := (hidR_rows h).1; omega
theorem hidP_ord (p : Pipe) (n : Nat) (zs : List Pt) : ∀ i, (hidP p n zs i).Pairwise rowBefore
  | 0 => by simp [hidP]
  | i + 1 => by
    rw [hidP_succ, List.pairwise_append]
    refine ⟨hidP_ord p n zs i, hidR_ord p n zs _ 12, fun x hx y hy => ?_⟩
    have h1 := hidP_rows hx
    have h2 := (hidR_rows hy).1
    exact .inl (by omega)
theorem hid_sorted (p : Pipe) (n : Nat) (zs : List Pt) : (hidL p n zs).mergeSort (PySem.W.dataLe false rowD) = hidL p n zs :=
  List.mergeSort_of_pairwise ((hidP_ord p n zs 12).imp rowLe)
theorem r_sortHid {K : PySem.W.Frag} {H : Hp} {Q : VK} {a : Addr} {xs : List V} {p : Pipe} {n : Nat} {zs : List Pt} (h : SqL K H a xs) (hx : Paired (RowAt K H) xs (hidL p n zs)) (q : ∀ ys l, Paired (RowAt K H) ys (hidL p n zs) → H l = none → Q (.ref l) (upd H l (.lst ys))) : rSortG K rowD [.ref a] H Q := by
  refine ⟨a, xs, hidL p n zs, rfl, h, Paired.mapP hx fun x r z => ⟨?_, z.dp⟩, PySem.W.AllAlike.of fun _ _ => ?_, PySem.W.Sortable.tuples fun _ => ⟨_, _, rfl⟩, fun b _ => ?_, fun ys l hy hl => ?_⟩
  · obtain ⟨t, e, _⟩ := z; exact ⟨t, e⟩
  · simp [PySem.W.alike, PySem.W.alikeAll, rowD, rowL]
  · simp [rowD, rowL, PyData.depth, PyData.depthAll]
  · rw [hid_sorted] at hy
    exact q ys l (Paired.mapP hy fun _ _ z => RowAt.ofDp z.2) hl
theorem r_neRows {K : PySem.W.Frag} {H : Hp} {Q : VK} {a b : Addr} {xs ys : List V} {rows : List Row} (h : SqL K H a xs) (hx : Paired (RowAt K H) xs rows) (h' : SqL K H b ys) (hy : Paired (RowAt K H) ys rows) (q : Q (.bl false) H) : rNeD K (.ref a) (.ref b) H Q :=
  r_neSelf (.lst h (dpAll_rows hx)) (.lst h' (dpAll_rows hy)) (shaped_rows rows) q
theorem shaped_row (r : Row) : SeqAt.shaped (rowD r) = true := by
  simp [SeqAt.shaped, rowD, rowL, PyData.canLay0, PyData.canLayAll0, PyData.depth, PyData.depthAll]
def tCan0 (sp : Sp) : TE := fun σ H Q => sp [] H Q E0
theorem pe_can0 {X : Cx} {k : Nat} {x : Str} {sp : Sp} {p pos : Pos} (C : Can X.prog X.w X.K X.mg X.base k x [] sp) (hr : Room k X.A) (hg : Gl X x) (hdb : (x == ("__debug__" : Str)) = false := by decide) : PE X (.Call (.Name x p) [] [] pos) (tCan0 sp) := by
  obtain ⟨f, fd, F, b, m, kp⟩ := C.ex
  exact ⟨fun pins s σ H Q I h => (pe_call0 F hr hg m kp b .nil pass0 hdb).run pins s σ H Q I h⟩
theorem r_can0 {sp : Sp} {σ : St} {H : Hp} {Q : VK} (h : sp [] H Q E0) : tCan0 sp σ H Q := h
theorem r_inRow {K : PySem.W.Frag} {H : Hp} {Q : VK} {x : V} {b : Addr} {ys : List V} {r : Row} {rows : List Row} (h : RowAt K H x r) (h' : SqL K H b ys) (hy : Paired (RowAt K H) ys rows) (q : Q (.bl ((rows.map rowD).any fun z => PyData.eqv z (rowD r))) H) : rInD K x (.ref b) H Q :=
  ⟨rowD r, rows.map rowD, h.dp, .lst h' (dpAll_rows hy), shaped_row r, shaped_rows rows, q⟩
theorem hid_rep {p : Pipe} {s : Step} {n : Nat} (h : n < p.length) (zs : List Pt) : hidL (repP p s n) n zs = hidL p n zs := by
  have hl : (p.take n).length = n := by rw [List.length_take]; omega
  have e1 : (repP p s n).take n = p.take n := by
    unfold repP
    rw [List.append_assoc, List.take_append_of_le_length (by omega), List.take_take, Nat.min_self]
  have e2 : (repP p s n).drop (n + 1) = p.drop (n + 1) := by
    show (p.take n ++ [s] ++ p.drop (n + 1)).drop (n + 1) = _
    rw [show n + 1 = (p.take n ++ [s]).length by simp only [List.length_append, hl, List.length_cons, List.length_nil], List.drop_left]
  unfold hidL hidP hidR hidO
  simp only [e1, e2, repP_repP h]
/-- a comprehension over a range whose values are made anew -/
theorem ll_mkR {K : PySem.W.Frag} {σ : St} {H : Hp} {Q : VK} {te : TE} {β : Type} {i0 : Nat} {lo : Int} {n : Nat} (F : Hp → V → β → Prop) (hF : ∀ H H' v z, TKeep K H H' → F H v z → F H' v z) (g : Nat → β) (hsz : n < 16777216)
    (hw : ∀ x, wipe ((wipe σ [i0]).set i0 (some x)) [i0] = wipe σ [i0])
    (hs : ∀ (i : Nat) (H' : Hp) (Q' : VK), i < n → Same H H' → (∀ v H4, Same H' H4 → F H4 v (g i) → Q' v H4) → te ((wipe σ [i0]).set i0 (some (.int (lo + i)))) H' Q')
    (hd : ∀ D H' ys, Same H H' → H' D = some (.lst ys) → Paired (F H') ys ((List.range n).map g) → H D = none → Q (.ref D) H') : LLoop (Itr lo n) (gName i0) tYes te [i0] σ H Q := by
  refine fun D hD => lc_range (lo := lo) (n := n) (fun i H' => Same H H' ∧ ∃ ys, H' D = some (.lst ys) ∧ ys.length = i ∧ Paired (F H') ys ((List.range i).map g)) ⟨Same.up (Same.refl _) hD, [], upd_same, rfl, .nil⟩ (fun i H' hi h => ?_) (fun H' h => ?_)
  · obtain ⟨h1, ys, h2, h3, h5⟩ := h
    refine ⟨hw _, ?_⟩
    show te _ H' _
    refine hs i H' _ hi h1 fun v H4 h4' hf => ⟨ys, h4' _ _ h2, by rw [PySem.sizeLine_eq]; omega, Same.upN (h1.trans h4') hD, ys ++ [v], upd_same, by rw [List.length_append, h3]; rfl, ?_⟩
    have ku : TKeep K H4 (L2.upd H4 D (.lst (ys ++ [v]))) := TKeep.upL .refl (h4' _ _ h2)
    rw [List.range_succ, List.map_append]
    exact Paired.snoc (Paired.mapP h5 fun _ _ z => hF _ _ _ _ ((TKeep.ofSame h4').trans ku) z) (hF _ _ _ _ ku hf)
  · obtain ⟨h1, ys, h2, h3, h5⟩ := h
    exact hd D H' ys h1 h2 h5 hD
theorem rep_ok_c {p : Pipe} {n : Nat} {k m c d : Int} (hk : 1 ≤ k ∧ k ≤ 120) (hm : 1 ≤ m ∧ m ≤ 120) (hd : -1000000000 ≤ d ∧ d ≤ 1000000000) (h : (repP p (.sc k m c) n).ok) : (repP p (.sc k m d) n).ok := by
  obtain ⟨h1, h2, h3⟩ := h
  refine ⟨by simpa [repP] using h1, fun s hs => ?_, ?_⟩
  · rcases List.mem_append.mp hs with hs | hs
    · rcases List.mem_append.mp hs with hs | hs
      · exact h2 s (List.mem_append_left _ (List.mem_append_left _ hs))
      · rw [List.mem_singleton.mp hs]
        exact ⟨hk, hm, hd⟩
    · exact h2 s (List.mem_append_right _ hs)
  · have e : Pipe.prod (repP p (.sc k m d) n) = Pipe.prod (repP p (.sc k m c) n) := by
      unfold repP
      rw [Pipe.prod_app, Pipe.prod_app, Pipe.prod_app, Pipe.prod_app]
      have : Pipe.prod [Step.sc k m d] = Pipe.prod [Step.sc k m c] := by simp [Pipe.prod, Step.per]
      rw [this]
    rw [e]; exact h3
theorem told_iff {p : Pipe} {n : Nat} {zs : List Pt} {k m c : Int} (pp : p.pos) (hk : 1 ≤ k ∧ k ≤ 12) (hm : 1 ≤ m ∧ m ≤ 12) (hc : -1000000000 ≤ c ∧ c ≤ 1000000000) :
    ((repP p (.sc k m c) n).ok ∧ fitsB (repP p (.sc k m c) n) zs = true) ↔ ∃ l u, (k, m, l, u) ∈ hidL p n zs ∧ l ≤ c ∧ c ≤ u := by
  have hf := obB_fits (pre := p.take n) (post := p.drop (n + 1)) (fun s hs => pp s (List.mem_of_mem_drop hs)) (k := k) (m := m) (by omega) zs c hc
  constructor
  · rintro ⟨h1, h2⟩
    obtain ⟨l, u, e, a1, a2⟩ := hf.mp h2
    exact ⟨l, u, hid_mem.mpr ⟨hk, hm, (show (repP p (.sc k m 0) n).ok from rep_ok_c (by omega) (by omega) (by decide) h1), e⟩, a1, a2⟩
  · rintro ⟨l, u, h, a1, a2⟩
    obtain ⟨_, _, h1, e⟩ := hid_mem.mp h
    exact ⟨rep_ok_c (c := 0) (by omega) (by omega) hc h1, hf.mpr ⟨l, u, e, a1, a2⟩⟩
theorem told_none {K : PySem.W.Frag} {H : Hp} {kvs : List (List Key × V)} {p : Pipe} {n : Nat} {zs : List Pt} {k m : Int} (T : TabOf K H kvs (hidL p n zs)) (e : valV kvs [kI k, kI m] = none) : ∀ l u, (k, m, l, u) ∉ hidL p n zs := fun l u h => by
  have := T.has _ h
  rw [show rkey (k, m, l, u) = [kI k, kI m] from rfl, e] at this
  cases this
theorem told_some {K : PySem.W.Frag} {H : Hp} {kvs : List (List Key × V)} {p : Pipe} {n : Nat} {zs : List Pt} {k m : Int} {v : V} (T : TabOf K H kvs (hidL p n zs)) (e : valV kvs [kI k, kI m] = some v) : ∃ l u d, v = .ref d ∧ SqT K H d [.int l, .int u] ∧ ∀ l' u', (k, m, l', u') ∈ hidL p n zs ↔ l' = l ∧ u' = u := by
  obtain ⟨⟨k', m', l, u⟩, hr, rfl, rfl, d, rfl, hd⟩ := T.val _ _ _ e
  refine ⟨l, u, d, rfl, hd, fun l' u' => ⟨fun h => ?_, ?_⟩⟩
  · have := hid_key h hr rfl rfl
    injection this with _ this
    injection this with _ this
    injection this with h1 h2
    exact ⟨h1, h2⟩
  · rintro ⟨rfl, rfl⟩
    exact hr
theorem r_din {ty td : TE} {σ : St} {H : Hp} {Q : VK} (h : ty σ H fun y H1 => td σ H1 fun x H2 => ∃ a o, x = .ref a ∧ DGet H2 a y o ∧ Q (.bl o.isSome) H2) : tDIn ty td σ H Q := h
/-- a loop over a list of pairs that changes nothing -/
theorem fl_prs {K : PySem.W.Frag} {a : Addr} {xs : List V} {g : TG} {tb : TS} {D : Ends} {σ : St} {H : Hp} (C : Int → Int → Prop) (hS : SqL K H a xs) (hall : ∀ x ∈ xs, ∃ c k m, x = .ref c ∧ H c = some (.tup [.int k, .int m]) ∧ C k m) (Pv : St → Prop) (h0 : Pv σ)
    (hs : ∀ c k m σ' H', Same H H' → H' c = some (.tup [.int k, .int m]) → C k m → Pv σ' → g (.ref c) σ' H' fun σ2 H2 => tb { D with nx := fun σ3 H3 => Same H H3 ∧ Pv σ3, ct := fun σ3 H3 => Same H H3 ∧ Pv σ3, bk := D.nx } σ2 H2)
    (hd : ∀ σ' H', Same H H' → Pv σ' → D.nx σ' H') : FLoop (Itl K a) g tb D σ H := by
  refine fl_list (xs := xs) (fun _ σ' H' => Same H H' ∧ Pv σ') ⟨Same.refl _, h0⟩ (fun _ _ _ _ h => SqL.hs h.1 hS) (fun i x σ' H' hx h => ?_) (fun σ' H' h => hd _ _ h.1 h.2)
  obtain ⟨c, k, m, rfl, hT, hc⟩ := hall x (List.mem_of_getElem? hx)
  exact hs c k m σ' H' h.1 (h.1 _ _ hT) hc h.2
end My

/-! ### repeated application of a level function -/
namespace My
open PySem L2
def itN (f : Int → Int) : Nat → Int → Int
  | 0, x => x
  | n + 1, x => f (itN f n x)
theorem itN_add (f : Int → Int) (m : Nat) (x : Int) : ∀ n, itN f (n + m) x = itN f n (itN f m x)
  | 0 => by rw [Nat.zero_add]; rfl
  | n + 1 => by rw [Nat.succ_add]; show f (itN f (n + m) x) = _; rw [itN_add f m x n]; rfl
theorem itN_mul (f : Int → Int) (n : Nat) (x : Int) : ∀ t, itN (itN f n) t x = itN f (t * n) x
  | 0 => by rw [Nat.zero_mul]; rfl
  | t + 1 => by
    show itN f n (itN (itN f n) t x) = _
    rw [itN_mul f n x t, ← itN_add, Nat.succ_mul, Nat.add_comm]
theorem itN_qp {f : Int → Int} {L : Int} (h : QP f L L) (k x : Int) : ∀ n, itN f n (x + k * L) = itN f n x + k * L
  | 0 => rfl
  | n + 1 => by
    show f (itN f n (x + k * L)) = f (itN f n x) + k * L
    rw [itN_qp h k x n, h.mul k]
theorem itN_mono {f : Int → Int} (h : ∀ x y, x ≤ y → f x ≤ f y) {x y : Int} (hxy : x ≤ y) : ∀ n, itN f n x ≤ itN f n y
  | 0 => hxy
  | n + 1 => h _ _ (itN_mono h hxy n)
structure WalkOf (f : Int → Int) (L x : Int) (μ m : Nat) : Prop where
  lt : μ < m
  rep : itN f m x % L = itN f μ x % L
  dis : ∀ i j, i < j → j < m → itN f i x % L ≠ itN f j x % L
theorem emod_eq_shift {a b L : Int} (h : a % L = b % L) : ∃ k, a = b + k * L := by
  refine ⟨a / L - b / L, ?_⟩
  have h1 := Int.mul_ediv_add_emod a L
  have h2 := Int.mul_ediv_add_emod b L
  rw [Int.sub_mul, Int.mul_comm (a / L), Int.mul_comm (b / L)]
  omega
section
variable {f : Int → Int} {L x : Int} {μ m : Nat}
theorem WalkOf.shift (W : WalkOf f L x μ m) : ∃ k, itN f m x = itN f μ x + k * L := emod_eq_shift W.rep
theorem WalkOf.one (hq : QP f L L) (W : WalkOf f L x μ m) (n : Nat) (hn : μ ≤ n) : itN f (n + (m - μ)) x = itN f n x + (itN f m x - itN f μ x) := by
  obtain ⟨k, hk⟩ := W.shift
  have hlt := W.lt
  have e1 : n + (m - μ) = (n - μ) + m := by omega
  have e2 : itN f n x = itN f (n - μ) (itN f μ x) := by rw [← itN_add]; congr 1; omega
  rw [e1, itN_add, hk, itN_qp hq, e2]
  omega
theorem WalkOf.jump (hq : QP f L L) (W : WalkOf f L x μ m) (n : Nat) (hn : μ ≤ n) : ∀ t : Nat, itN f (n + t * (m - μ)) x = itN f n x + t * (itN f m x - itN f μ x)
  | 0 => by simp
  | t + 1 => by
    rw [Nat.succ_mul, ← Nat.add_assoc, W.one hq _ (Nat.le_trans hn (Nat.le_add_right _ _)), WalkOf.jump hq W n hn t]
    push_cast
    rw [Int.add_mul]
    omega
theorem dis_le {n : Nat} (hL : 0 < L) (dis : ∀ i j, i < j → j < n → itN f i x % L ≠ itN f j x % L) : (n : Int) ≤ L := by
  have h1 : ((List.range n).map fun i => (itN f i x % L).toNat).Nodup := by
    rw [List.nodup_iff_pairwise_ne, List.pairwise_map]
    refine List.Pairwise.imp_of_mem (fun {i j} hi hj hlt => ?_) List.pairwise_lt_range
    intro e
    have a1 := Int.emod_nonneg (itN f i x) (show L ≠ 0 by omega)
    have a2 := Int.emod_nonneg (itN f j x) (show L ≠ 0 by omega)
    exact dis i j hlt (List.mem_range.mp hj) (by omega)
  have h2 := L2.nat_nodup_len _ (List.range L.toNat) h1 fun y hy => by
    obtain ⟨i, _, rfl⟩ := List.mem_map.mp hy
    rw [List.mem_range]
    have a1 := Int.emod_nonneg (itN f i x) (show L ≠ 0 by omega)
    have a2 := Int.emod_lt_of_pos (itN f i x) hL
    omega
  rw [List.length_map, List.length_range, List.length_range] at h2
  omega
theorem WalkOf.len_le (hL : 0 < L) (W : WalkOf f L x μ m) : (m : Int) ≤ L := dis_le hL W.dis
theorem WalkOf.at (hq : QP f L L) (W : WalkOf f L x μ m) (n : Nat) (hn : μ ≤ n) : itN f n x = itN f (μ + (n - μ) % (m - μ)) x + ((n - μ) / (m - μ) : Nat) * (itN f m x - itN f μ x) := by
  rw [← W.jump hq _ (Nat.le_add_right _ _)]
  congr 1
  have := Nat.mod_add_div (n - μ) (m - μ)
  rw [Nat.mul_comm] at this
  omega
/-! rotation -/
theorem rot_step (hL : 0 < L) (hq : QP f L L) (hm : ∀ x y, x ≤ y → f x ≤ f y) {D s : Int} {n : Nat} (hs : 0 < s) (h : s * L ≤ (itN f n x - x) * s - n * D) (z : Int) : z * s + n * D + 1 ≤ itN f n z * s := by
  obtain ⟨j, hj⟩ : ∃ j, j = (z - x) / L := ⟨_, rfl⟩
  have e := Int.mul_ediv_add_emod (z - x) L
  have b1 := Int.emod_nonneg (z - x) (show L ≠ 0 by omega)
  have b2 := Int.emod_lt_of_pos (z - x) hL
  rw [← hj, Int.mul_comm] at e
  obtain ⟨r, hr⟩ : ∃ r, r = (z - x) % L := ⟨_, rfl⟩
  rw [← hr] at e b1 b2
  have ez : z = (x + r) + j * L := by omega
  have h1 : itN f n x ≤ itN f n (x + r) := itN_mono hm (by omega) n
  rw [ez, itN_qp hq, Int.add_mul, Int.add_mul]
  have h2 : itN f n x * s ≤ itN f n (x + r) * s := Int.mul_le_mul_of_nonneg_right h1 (by omega)
  have h3 : (r + 1) * s ≤ L * s := Int.mul_le_mul_of_nonneg_right (by omega) (by omega)
  rw [Int.sub_mul] at h
  rw [Int.add_mul, Int.one_mul] at h3
  rw [Int.add_mul]
  rw [Int.mul_comm s L] at h
  omega
theorem rot_step' (hL : 0 < L) (hq : QP f L L) (hm : ∀ x y, x ≤ y → f x ≤ f y) {D s : Int} {n : Nat} (hs : 0 < s) (h : (itN f n x - x) * s - n * D ≤ -(s * L)) (z : Int) : itN f n z * s ≤ z * s + n * D - 1 := by
  obtain ⟨j, hj⟩ : ∃ j, j = (x - z) / L := ⟨_, rfl⟩
  have e := Int.mul_ediv_add_emod (x - z) L
  have b1 := Int.emod_nonneg (x - z) (show L ≠ 0 by omega)
  have b2 := Int.emod_lt_of_pos (x - z) hL
  rw [← hj, Int.mul_comm] at e
  obtain ⟨r, hr⟩ : ∃ r, r = (x - z) % L := ⟨_, rfl⟩
  rw [← hr] at e b1 b2
  have ez : z = (x - r) + (-j) * L := by rw [Int.neg_mul]; omega
  have h1 : itN f n (x - r) ≤ itN f n x := itN_mono hm (by omega) n
  rw [ez, itN_qp hq, Int.add_mul, Int.add_mul]
  have h2 : itN f n (x - r) * s ≤ itN f n x * s := Int.mul_le_mul_of_nonneg_right h1 (by omega)
  have h3 : (r + 1) * s ≤ L * s := Int.mul_le_mul_of_nonneg_right (by omega) (by omega)
  rw [Int.sub_mul] at h
  rw [Int.add_mul, Int.one_mul] at h3
  rw [Int.sub_mul]
  rw [Int.mul_comm s L] at h
  omega
theorem rot_up {g : Int → Int} {c s : Int} (h : ∀ z, z * s + c ≤ g z * s) (y : Int) : ∀ t : Nat, y * s + t * c ≤ itN g t y * s
  | 0 => by simp [itN]
  | t + 1 => by
    have h1 := rot_up h y t
    have h2 := h (itN g t y)
    show _ ≤ g (itN g t y) * s
    push_cast
    rw [Int.add_mul]
    omega
theorem rot_dn {g : Int → Int} {c s : Int} (h : ∀ z, g z * s ≤ z * s + c) (y : Int) : ∀ t : Nat, itN g t y * s ≤ y * s + t * c
  | 0 => by simp [itN]
  | t + 1 => by
    have h1 := rot_dn h y t
    have h2 := h (itN g t y)
    show g (itN g t y) * s ≤ _
    push_cast
    rw [Int.add_mul]
    omega
theorem cyc_mul (hq : QP f L L) {y k : Int} {s : Nat} (hy : itN f s y = y + k * L) : ∀ n : Nat, itN f (n * s) y = y + n * (k * L)
  | 0 => by simp [itN]
  | n + 1 => by
    rw [Nat.succ_mul, itN_add, hy, itN_qp hq, cyc_mul hq hy n]
    push_cast
    rw [Int.add_mul]
    omega
theorem rot_bound (hL : 0 < L) (hq : QP f L L) (hm : ∀ x y, x ≤ y → f x ≤ f y) {y k : Int} {s : Nat} (hs : 0 < s) (hy : itN f s y = y + k * L) (x : Int) (n : Nat) : -((s : Int) * L) < (itN f n x - x) * s - n * (k * L) ∧ (itN f n x - x) * s - n * (k * L) < s * L := by
  have hc := cyc_mul hq hy n
  have hs' : 0 < (s : Int) := by omega
  constructor
  · refine Int.lt_of_not_ge fun h => ?_
    have h1 := rot_step' hL hq hm hs' h
    have h2 := rot_dn (g := itN f n) (c := n * (k * L) - 1) (s := s) (fun z => by have := h1 z; omega) y s
    rw [itN_mul, Nat.mul_comm, hc] at h2
    rw [Int.add_mul, Int.mul_sub, Int.mul_one, Int.mul_comm (s : Int)] at h2
    omega
  · refine Int.lt_of_not_ge fun h => ?_
    have h1 := rot_step hL hq hm hs' h
    have h2 := rot_up (g := itN f n) (c := n * (k * L) + 1) (s := s) (fun z => by have := h1 z; omega) y s
    rw [itN_mul, Nat.mul_comm, hc] at h2
    rw [Int.add_mul, Int.mul_add, Int.mul_one, Int.mul_comm (s : Int)] at h2
    omega
theorem rot_uniq (hL : 0 < L) (hq : QP f L L) (hm : ∀ x y, x ≤ y → f x ≤ f y) {y k y' k' : Int} {s s' : Nat} (hs : 0 < s) (hs' : 0 < s') (hy : itN f s y = y + k * L) (hy' : itN f s' y' = y' + k' * L) : k' * L * s = k * L * s' := by
  obtain ⟨t, ht⟩ : ∃ t : Nat, (t : Int) = s * L := ⟨((s : Int) * L).toNat, by have := Int.mul_pos (show 0 < (s : Int) by omega) hL; omega⟩
  have h1 := rot_bound hL hq hm hs hy y' (t * s')
  have hc := cyc_mul hq hy' t
  rw [hc] at h1
  have e : (y' + t * (k' * L) - y') * s - ((t * s' : Nat) : Int) * (k * L) = t * (k' * L * s - k * L * s') := by
    push_cast
    rw [Int.mul_sub, show y' + (t : Int) * (k' * L) - y' = t * (k' * L) by omega, Int.mul_assoc (t : Int) (k' * L), Int.mul_assoc (t : Int) (s' : Int), Int.mul_comm (s' : Int)]
  rw [e, ← ht] at h1
  have hp : 0 < (t : Int) := by rw [ht]; exact Int.mul_pos (by omega) hL
  rcases Int.lt_trichotomy (k' * L * s - k * L * s') 0 with h | h | h
  · have := Int.mul_le_mul_of_nonneg_left (show k' * L * s - k * L * s' ≤ -1 by omega) (show 0 ≤ (t : Int) by omega)
    rw [Int.mul_neg, Int.mul_one] at this
    omega
  · omega
  · have := Int.mul_le_mul_of_nonneg_left (show 1 ≤ k' * L * s - k * L * s' by omega) (show 0 ≤ (t : Int) by omega)
    rw [Int.mul_one] at this
    omega
end
/-- a walk's cycle -/
theorem WalkOf.cyc {f : Int → Int} {L x : Int} {μ m : Nat} (W : WalkOf f L x μ m) : ∃ k, itN f (m - μ) (itN f μ x) = itN f μ x + k * L ∧ itN f m x - itN f μ x = k * L := by
  obtain ⟨k, hk⟩ := W.shift
  have hlt := W.lt
  refine ⟨k, ?_, by omega⟩
  rw [← itN_add, show m - μ + μ = m by omega, hk]
/-- two walks: the same mean -/
theorem WalkOf.mean {f : Int → Int} {L x x' : Int} {μ m μ' m' : Nat} (hL : 0 < L) (hq : QP f L L) (hm : ∀ x y, x ≤ y → f x ≤ f y) (W : WalkOf f L x μ m) (W' : WalkOf f L x' μ' m') :
    (itN f m x - itN f μ x) * ((m' : Int) - μ') = (itN f m' x' - itN f μ' x') * ((m : Int) - μ) := by
  obtain ⟨k, h1, h2⟩ := W.cyc
  obtain ⟨k', h1', h2'⟩ := W'.cyc
  have a := W.lt
  have a' := W'.lt
  have := rot_uniq hL hq hm (show 0 < m' - μ' by omega) (show 0 < m - μ by omega) h1' h1
  rw [h2, h2', show (m' : Int) - μ' = ((m' - μ' : Nat) : Int) by omega, show (m : Int) - μ = ((m - μ : Nat) : Int) by omega]
  exact this
/-- how far n applications are from the mean -/
theorem WalkOf.far {f : Int → Int} {L x : Int} {μ m : Nat} (hL : 0 < L) (hq : QP f L L) (hm : ∀ x y, x ≤ y → f x ≤ f y) (W : WalkOf f L x μ m) (z : Int) (n : Nat) :
    -(((m : Int) - μ) * L) < (itN f n z - z) * ((m : Int) - μ) - n * (itN f m x - itN f μ x) ∧ (itN f n z - z) * ((m : Int) - μ) - n * (itN f m x - itN f μ x) < ((m : Int) - μ) * L := by
  obtain ⟨k, h1, h2⟩ := W.cyc
  have a := W.lt
  have := rot_bound hL hq hm (show 0 < m - μ by omega) h1 z n
  rw [h2, show (m : Int) - μ = ((m - μ : Nat) : Int) by omega]
  exact this
/-- a level function without collisions is a shift -/
theorem level_shift {f : Int → Int} {L : Int} (hL : 0 < L) (hq : QP f L L) (hm : ∀ x y, x ≤ y → f x ≤ f y) (hi : ∀ x, f x ≠ f (x + 1)) : ∀ x, f x = x + f 0 := by
  have up : ∀ x, f x + 1 ≤ f (x + 1) := fun x => by have := hm x (x + 1) (by omega); have := hi x; omega
  have upn : ∀ (x : Int) (n : Nat), f x + n ≤ f (x + n) := fun x n => by
    induction n with
    | zero => simp
    | succ n ih => have := up (x + n); push_cast; rw [← Int.add_assoc x]; omega
  have one : ∀ x, f (x + 1) = f x + 1 := fun x => by
    have h1 := up x
    have h2 := upn (x + 1) (L.toNat - 1)
    have h3 := hq x
    rw [show x + 1 + ((L.toNat - 1 : Nat) : Int) = x + L by omega] at h2
    omega
  have pos : ∀ n : Nat, f n = n + f 0 := fun n => by
    induction n with
    | zero => simp
    | succ n ih => have := one n; push_cast; omega
  have neg : ∀ n : Nat, f (-(n : Int)) = -(n : Int) + f 0 := fun n => by
    induction n with
    | zero => simp
    | succ n ih =>
      have := one (-((n : Int) + 1))
      rw [show -((n : Int) + 1) + 1 = -(n : Int) by omega] at this
      push_cast; omega
  intro x
  rcases Int.le_total 0 x with h | h
  · have := pos x.toNat
    rw [show ((x.toNat : Nat) : Int) = x by omega] at this
    exact this
  · have := neg (-x).toNat
    rw [show -(((-x).toNat : Nat) : Int) = x by omega] at this
    exact this
theorem itN_shift {f : Int → Int} {c : Int} (h : ∀ x, f x = x + c) (x : Int) : ∀ n : Nat, itN f n x = x + n * c
  | 0 => by simp [itN]
  | n + 1 => by
    show f (itN f n x) = _
    rw [h, itN_shift h x n]
    push_cast
    rw [Int.add_mul]
    omega
theorem itN_congr {f g : Int → Int} (h : ∀ x, f x = g x) (x : Int) : ∀ n : Nat, itN f n x = itN g n x
  | 0 => rfl
  | n + 1 => by show f (itN f n x) = g (itN g n x); rw [itN_congr h x n, h]
/-- level -/
theorem Least.level {p : Pipe} (hp : p.pos) {P R : Int} (h : Least p.val P R) : P = R ↔ p.prod = p.rises := by
  have d := h.dvd (Pipe.qp hp)
  have p1 := Pipe.prod_pos' hp
  have p0 := h.pos
  constructor
  · intro e
    rw [d.1, d.2, e]
  · intro e
    have hq : 0 < p.prod / P := by
      rcases Int.lt_or_le 0 (p.prod / P) with h1 | h1
      · exact h1
      · have := Int.mul_le_mul_of_nonneg_left h1 (show 0 ≤ P by omega)
        omega
    have e2 : P * (p.prod / P) = R * (p.prod / P) := by rw [← d.1, ← d.2, e]
    exact Int.eq_of_mul_eq_mul_right (by omega) e2

structure SInv (kvs : List (Key × V)) (f : Int → Int) (L x : Int) (i : Nat) : Prop where
  hit : ∀ j, j ≤ i → valV kvs (kI (itN f j x % L)) = some (.int (j : Nat))
  mis : ∀ r, (∀ j, j ≤ i → itN f j x % L ≠ r) → valV kvs (kI r) = none
  len : kvs.length ≤ i + 1
theorem kI_inj {a b : Int} (h : kI a = kI b) : a = b := Sum.inl.inj h
theorem SInv.start (f : Int → Int) (L x : Int) : SInv (mergeK [] [(kI (x % L), .int 0)]) f L x 0 := by
  have e : mergeK [] [(kI (x % L), V.int 0)] = putK [] (kI (x % L)) (.int 0) := rfl
  refine ⟨fun j hj => ?_, fun r h => ?_, ?_⟩
  · rw [show j = 0 by omega, e, valV_put, if_pos (by rfl)]; rfl
  · rw [e, valV_put, if_neg (show ¬ kI r = kI (x % L) from fun z => h 0 (Nat.le_refl _) (kI_inj z).symm)]; rfl
  · rw [e]; have := length_putK ([] : List (Key × V)) (kI (x % L)) (.int 0); simpa using this
theorem SInv.put {kvs : List (Key × V)} {f : Int → Int} {L x : Int} {i : Nat} (S : SInv kvs f L x i) (h : valV kvs (kI (itN f (i + 1) x % L)) = none) : SInv (putK kvs (kI (itN f (i + 1) x % L)) (.int ((i : Int) + 1))) f L x (i + 1) := by
  have hne : ∀ j, j ≤ i → itN f j x % L ≠ itN f (i + 1) x % L := fun j hj e => by
    have := S.hit j hj
    rw [e, h] at this
    cases this
  refine ⟨fun j hj => ?_, fun r hr => ?_, ?_⟩
  · rw [valV_put]
    rcases Nat.lt_or_ge j (i + 1) with h1 | h1
    · rw [if_neg (fun z => hne j (by omega) (kI_inj z))]
      exact S.hit j (by omega)
    · rw [show j = i + 1 by omega, if_pos rfl]; rfl
  · rw [valV_put, if_neg (fun z => hr (i + 1) (Nat.le_refl _) (kI_inj z).symm)]
    exact S.mis r fun j hj => hr j (by omega)
  · have := length_putK kvs (kI (itN f (i + 1) x % L)) (.int ((i : Int) + 1)); have := S.len; omega
theorem SInv.found {kvs : List (Key × V)} {f : Int → Int} {L x : Int} {i : Nat} (S : SInv kvs f L x i) {v : V} {r : Int} (h : valV kvs (kI r) = some v) : ∃ j : Nat, j ≤ i ∧ itN f j x % L = r ∧ v = .int (j : Nat) := by
  by_cases hj : ∃ j, j ≤ i ∧ itN f j x % L = r
  · obtain ⟨j, h1, h2⟩ := hj
    have := S.hit j h1
    rw [h2, h] at this
    exact ⟨j, h1, h2, Option.some.inj this⟩
  · rw [S.mis r fun j h1 h2 => hj ⟨j, h1, h2⟩] at h
    cases h
theorem SInv.dis {kvs : List (Key × V)} {f : Int → Int} {L x : Int} {i : Nat} (S : SInv kvs f L x i) : ∀ a b, a < b → b < i + 1 → itN f a x % L ≠ itN f b x % L := fun a b h1 h2 e => by
  have ha := S.hit a (by omega)
  have hb := S.hit b (by omega)
  rw [e, hb] at ha
  injection ha with ha
  injection ha with ha
  omega
theorem r_disp {trs : List (TE × TE)} {σ : St} {H : Hp} {Q : VK} (h : ∀ p, H p = none → tPairs trs σ (upd H p (.dK [])) fun ps H2 => H2 p = some (.dK []) ∧ ∃ kvs : List (Key × V), ps = kvs.map (fun kv => (kV kv.1, kv.2)) ∧ kvs.length ≤ 15 ∧ Q (.ref p) (upd H2 p (.dK (mergeK [] kvs)))) : tDisp trs σ H Q := h
theorem r_pairs1 {tk tv : TE} {σ : St} {H : Hp} {Q : List (V × V) → Hp → Prop} (h : tk σ H fun x H1 => tv σ H1 fun y H2 => Q [(x, y)] H2) : tPairs [(tk, tv)] σ H Q := h
abbrev itL (f : Int → Int) (x : Int) (n : Nat) : List V := ((List.range n).map fun (i : Nat) => itN f i x).map V.int
theorem itL_succ (f : Int → Int) (x : Int) (n : Nat) : itL f x n ++ [.int (itN f n x)] = itL f x (n + 1) := by
  unfold itL; rw [List.range_succ, List.map_append, List.map_append]; rfl
theorem itL_len (f : Int → Int) (x : Int) (n : Nat) : (itL f x n).length = n := by simp [itL]
theorem itL_get {f : Int → Int} {x : Int} {n i : Nat} (h : i < n) : (itL f x n)[i]? = some (.int (itN f i x)) := by
  unfold itL; rw [List.getElem?_map, List.getElem?_map, List.getElem?_range h]; rfl
theorem r_ixIt {K : PySem.W.Frag} {H : Hp} {Q : VK} {a : Addr} {f : Int → Int} {x : Int} {n i : Nat} {j : Int} (h : SqL K H a (itL f x n)) (hj : j = (i : Int)) (hi : i < n) (q : Q (.int (itN f i x)) H) : rIxL K (.ref a) (.int j) H Q := by
  subst hj
  exact r_ixL h (at_of (j := i) rfl (itL_get hi)) q
theorem r_ixItL {K : PySem.W.Frag} {H : Hp} {Q : VK} {a : Addr} {f : Int → Int} {x : Int} {m : Nat} (h : SqL K H a (itL f x (m + 1))) (q : Q (.int (itN f m x)) H) : rIxL K (.ref a) (.int (-1)) H Q := by
  refine r_ixL h ?_ q
  unfold atI ixN
  rw [if_neg (by decide), if_pos (by rw [itL_len]; omega)]
  show (itL f x (m + 1))[(-1 + ((itL f x (m + 1)).length : Int)).toNat]? = _
  rw [itL_len, show (-1 + ((m + 1 : Nat) : Int)).toNat = m by omega]
  exact itL_get (by omega)
theorem valV_shape {kvs : List (Key × V)} {k : Key} : valV kvs k = none ∨ ∃ v, valV kvs k = some v := by
  cases valV kvs k with
  | none => exact .inl rfl
  | some v => exact .inr ⟨v, rfl⟩
theorem r_p14 {H : Hp} {Q : VK} (h : Q (.int 100000000000000) H) : rI CPow (fun i j => .int (i ^ j.toNat)) (.int 10) (.int 14) H Q := ⟨10, 14, rfl, rfl, ⟨by decide, by decide, by decide⟩, h⟩
theorem abs_bd {x c : Int} (h : (if x < 0 then -x else x) ≤ c) : -c ≤ x ∧ x ≤ c := by split at h <;> omega
theorem bd_abs {x c : Int} (h : -c < x ∧ x < c) : (if x < 0 then -x else x) < c := by split <;> omega
theorem far_low {g B T D s P d n : Int} (hg : 0 < g) (eT : D = g * T) (eB : s = g * B) (h : -(s * P) < d * s - n * D ∧ d * s - n * D < s * P) : -(P * B) < d * B - n * T ∧ d * B - n * T < P * B := by
  have e : d * s - n * D = g * (d * B - n * T) := by
    rw [eT, eB, Int.mul_sub, Int.mul_left_comm, Int.mul_left_comm n]
  have e2 : s * P = g * (P * B) := by rw [eB, Int.mul_assoc, Int.mul_comm B]
  rw [e, e2] at h
  constructor
  · have h1 : g * (-(P * B)) < g * (d * B - n * T) := by rw [Int.mul_neg]; exact h.1
    exact Int.lt_of_mul_lt_mul_left h1 (by omega)
  · exact Int.lt_of_mul_lt_mul_left h.2 (by omega)
theorem undo_all {p q : Pipe} (hp : p.pos) (hqp : q.pos) {L : Int} (hl : Least p.val L L) (hi : inj p) (hv : ∀ y, q.val y = p.last y) :
    (∀ x, q.val (p.val x) = x) ∧ (∃ P', Least q.val P' P') ∧ ∀ n x, itN q.val n (itN p.val n x) = x := by
  have hs := level_shift hl.pos hl.qp (fun x y h => Pipe.mono hp h) hi
  obtain ⟨c, hc⟩ : ∃ c, c = p.val 0 := ⟨_, rfl⟩
  rw [← hc] at hs
  have hq : ∀ y, q.val y = y + (-c) := fun y => by
    rw [hv y]
    have g1 := (Pipe.gal hp (x := y + 1 - c) (y := y + 1)).mp (by rw [hs]; omega)
    have g2 := (Pipe.gal hp (x := p.first (y + 1)) (y := y + 1)).mpr (Int.le_refl _)
    rw [hs] at g2
    unfold Pipe.last
    omega
  refine ⟨fun x => by rw [hq, hs]; omega, ?_, fun n x => ?_⟩
  · obtain ⟨P', R', l⟩ := Pipe.least_ex hqp
    have h1 := l.qp 0
    rw [hq, hq] at h1
    have e : P' = R' := by omega
    exact ⟨P', by rw [← e] at l; exact l⟩
  · rw [itN_shift hs, itN_shift hq, Int.mul_neg]
    omega
end My

/-! ### rounding modes -/
namespace My
open PySem L2
inductive Mode where
  | fl | ce | hu | hd | he
  deriving DecidableEq
def Mode.str : Mode → Str
  | .fl => "floor" | .ce => "ceil" | .hu => "half_up" | .hd => "half_down" | .he => "half_even"
def Mode.off (m : Int) : Mode → Int
  | .fl => 0 | .ce => m - 1 | .hu => m / 2 | .hd => (m - 1) / 2 | .he => 0
def Mode.step (m : Int) : Mode → Step
  | .he => .ev m
  | md => .sc 1 m (md.off m)
def modesV : List V := [.str "floor", .str "ceil", .str "half_up", .str "half_down", .str "half_even"]
structure KModes (K : PySem.W.Frag) (mg : Str → Option Value) : Prop where
  ex : ∃ a, mg "MODES" = some (.ref a) ∧ ∀ H, SqT K H a modesV
theorem pe_modes {X : Cx} {pos : Pos} (hg : Gl X "MODES") (g : KModes X.K X.mg) : PE X (.Name "MODES" pos) (tC (.ref g.ex.choose)) := pe_glob hg g.ex.choose_spec.1 rfl (by decide)
theorem modes_in (md : Mode) : inV (.str md.str) modesV = true := by cases md <;> decide +kernel
theorem r_notInM {K : PySem.W.Frag} {mg : Str → Option Value} {H : Hp} {Q : VK} {g : KModes K mg} {s : Str} (md : Mode) (e : s = md.str) (q : Q (.bl false) H) : rIn K true (.str s) (.ref g.ex.choose) H Q :=
  ⟨_, modesV, rfl, .inr (g.ex.choose_spec.2 H), rfl, by decide +kernel, by rw [if_pos rfl, e, modes_in]; exact q⟩
theorem r_pairsC {tk tv : TE} {r : List (TE × TE)} {σ : St} {H : Hp} {Q : List (V × V) → Hp → Prop} (h : tk σ H fun x H1 => tv σ H1 fun y H2 => tPairs r σ H2 fun ps H3 => Q ((x, y) :: ps) H3) : tPairs ((tk, tv) :: r) σ H Q := h
theorem r_pairsN {σ : St} {H : Hp} {Q : List (V × V) → Hp → Prop} (h : Q [] H) : tPairs [] σ H Q := h
def kS (x : Str) : Key := Sum.inr x
def offKv (m : Int) : List (Key × V) := [(kS "floor", .int 0), (kS "ceil", .int (m - 1)), (kS "half_up", .int (m / 2)), (kS "half_down", .int ((m - 1) / 2))]
theorem offKv_at (m : Int) (md : Mode) (h : md ≠ .he) : valV (mergeK [] (offKv m)) (kS md.str) = some (.int (md.off m)) := by
  have e : mergeK [] (offKv m) = putK (putK (putK (putK [] (kS "floor") (.int 0)) (kS "ceil") (.int (m - 1))) (kS "half_up") (.int (m / 2))) (kS "half_down") (.int ((m - 1) / 2)) := rfl
  rw [e, valV_put, valV_put, valV_put, valV_put]
  cases md with
  | fl => rw [if_neg (by decide +kernel), if_neg (by decide +kernel), if_neg (by decide +kernel), if_pos (by decide +kernel)]; rfl
  | ce => rw [if_neg (by decide +kernel), if_neg (by decide +kernel), if_pos (by decide +kernel)]; rfl
  | hu => rw [if_neg (by decide +kernel), if_pos (by decide +kernel)]; rfl
  | hd => rw [if_pos (by decide +kernel)]; rfl
  | he => exact absurd rfl h
theorem Mode.pos {m : Int} (h : 1 ≤ m ∧ m ≤ 120) (md : Mode) : (md.step m).pos := by
  cases md
  all_goals first
    | exact (show (1 ≤ (1 : Int) ∧ (1 : Int) ≤ 120) ∧ (1 ≤ m ∧ m ≤ 120) from ⟨by decide, h⟩)
    | exact (show 1 ≤ m ∧ m ≤ 144 from ⟨h.1, by omega⟩)
theorem Mode.per {m : Int} (h : 1 ≤ m) (md : Mode) : 1 ≤ (md.step m).per ∧ (md.step m).per ≤ 2 * m := by
  cases md with
  | he => show 1 ≤ (if m % 2 = 0 then 2 * m else m) ∧ (if m % 2 = 0 then 2 * m else m) ≤ 2 * m; split <;> omega
  | _ => show 1 ≤ m ∧ m ≤ 2 * m; omega
theorem Mode.prod2 {m n : Int} (h : 1 ≤ m ∧ m ≤ 12) (h' : 1 ≤ n ∧ n ≤ 12) (md : Mode) : Pipe.prod [md.step m, md.step n] ≤ 576 := by
  have a := Mode.per h.1 md
  have b := Mode.per h'.1 md
  have e : Pipe.prod [md.step m, md.step n] = (md.step m).per * (md.step n).per := by simp [Pipe.prod]
  rw [e]
  exact Int.mul_le_mul (a := (md.step m).per) (b := (md.step n).per) (c := 24) (d := 24) (by omega) (by omega) (by omega) (by omega)
theorem Mode.prod1 {m : Int} (h : 1 ≤ m ∧ m ≤ 144) (md : Mode) : Pipe.prod [md.step m] ≤ 288 := by
  have a := Mode.per h.1 md
  have e : Pipe.prod [md.step m] = (md.step m).per := by simp [Pipe.prod]
  omega
theorem climb_walk {μ m : Nat} (W : WalkOf (Pipe.val [.sc 1 3 2, .sc 3 1 1]) 3 0 μ m) : μ = 1 ∧ m = 2 := by
  have w1 := W.lt
  have w2 := W.len_le (by decide)
  have w3 := W.rep
  have w4 := W.dis
  rcases (show m = 1 ∨ m = 2 ∨ m = 3 by omega) with rfl | rfl | rfl
  · exfalso
    rw [show μ = 0 by omega] at w3
    revert w3; decide +kernel
  · rcases (show μ = 0 ∨ μ = 1 by omega) with rfl | rfl
    · exfalso; revert w3; decide +kernel
    · exact ⟨rfl, rfl⟩
  · exfalso
    have := w4 1 2 (by decide) (by decide)
    revert this; decide +kernel
theorem turn_val : ∀ y, Pipe.val [.sc 3 2 1, .sc 2 3 1] y = y + 0 := fun y => by
  show (2 * ((3 * y + 1) / 2) + 1) / 3 = y + 0
  omega
theorem five_val : ∀ y, Pipe.val [.sc 1 1 5] y = y + 5 := fun y => by
  show (1 * y + 5) / 1 = y + 5
  omega
theorem it_turn : itN (Pipe.val [.sc 3 2 1, .sc 2 3 1]) (Int.toNat 1000000000000000000) 7 = 7 := by rw [itN_shift turn_val]; decide
theorem it_five : itN (Pipe.val [.sc 1 1 5]) (Int.toNat 1000000000000000000) (-3) = 4999999999999999997 := by rw [itN_shift five_val]; decide
end My

namespace My
open PySem L2
def topS (i : Nat) : Stmt := PySem.Challenge.pw_stepscale_k24_whole_worked_examples.main.body.getD i (.Pass ⟨0, 0, 0, 0⟩)
section
variable {P : Program} {w : World} {K : PySem.W.Frag} {mg : Str → Option Value} {base : Heap}
abbrev s_is_integer : Stmt := topS 16
abbrev n_is_integer : List Str := ["value", "low", "high"]
theorem sc_is_integer : FnScope n_is_integer ["value", "low", "high"] (defScope s_is_integer) := ⟨rfl, rfl, rfl, by decide +kernel, rfl, by decide +kernel, by decide +kernel⟩
def sp_is_integer (K : PySem.W.Frag) : Sp := fun vs H Q _ => ∃ v lo hi d, vs = [v, .int lo, .int hi] ∧ Dp K H v d ∧ ∀ H', Same H H' → Q (.bl (isIntD d lo hi)) H'
theorem sp_is_integer_len {vs H Q E} (h : sp_is_integer K vs H Q E) : vs.length = 3 := by obtain ⟨v, lo, hi, d, rfl, _⟩ := h; rfl
theorem u_is_integer {v : V} {d : PyData} {lo hi : Int} {H : Hp} {Q : VK} {E : XK} (h : Dp K H v d) (k : ∀ H', Same H H' → Q (.bl (isIntD d lo hi)) H') : sp_is_integer K [v, .int lo, .int hi] H Q E := ⟨v, lo, hi, d, rfl, h, k⟩
abbrev s_is_step : Stmt := topS 17
abbrev n_is_step : List Str := ["value"]
theorem sc_is_step : FnScope n_is_step ["value"] (defScope s_is_step) := ⟨rfl, rfl, rfl, by decide +kernel, rfl, by decide +kernel, by decide +kernel⟩
def sp_is_step (K : PySem.W.Frag) : Sp := fun vs H Q _ => ∃ v d, vs = [v] ∧ Dp K H v d ∧ SeqAt.shaped d = true ∧ ∀ H', Same H H' → Q (.bl (isStepD d)) H'
theorem sp_is_step_len {vs H Q E} (h : sp_is_step K vs H Q E) : vs.length = 1 := by obtain ⟨v, d, rfl, _⟩ := h; rfl
theorem u_is_step {v : V} {d : PyData} {H : Hp} {Q : VK} {E : XK} (h : Dp K H v d) (s : SeqAt.shaped d = true) (k : ∀ H', Same H H' → Q (.bl (isStepD d)) H') : sp_is_step K [v] H Q E := ⟨v, d, rfl, h, s, k⟩
abbrev s_step_period : Stmt := topS 18
abbrev n_step_period : List Str := ["step", "m"]
theorem sc_step_period : FnScope n_step_period ["step"] (defScope s_step_period) := ⟨rfl, rfl, rfl, by decide +kernel, rfl, by decide +kernel, by decide +kernel⟩
def sp_step_period (K : PySem.W.Frag) : Sp := fun vs H Q _ => ∃ v s, vs = [v] ∧ StepAt K H v s ∧ s.pos ∧ ∀ p H', Same H H' → SqT K H' p [.int s.per, .int s.rise] → Q (.ref p) H'
theorem sp_step_period_len {vs H Q E} (h : sp_step_period K vs H Q E) : vs.length = 1 := by obtain ⟨v, s, rfl, _⟩ := h; rfl
theorem u_step_period {v : V} {s : Step} {H : Hp} {Q : VK} {E : XK} (h : StepAt K H v s) (p : s.pos) (k : ∀ p H', Same H H' → SqT K H' p [.int s.per, .int s.rise] → Q (.ref p) H') : sp_step_period K [v] H Q E := ⟨v, s, rfl, h, p, k⟩
abbrev s_is_pipeline : Stmt := topS 19
abbrev n_is_pipeline : List Str := ["value", "step", "product"]
theorem sc_is_pipeline : FnScope n_is_pipeline ["value"] (defScope s_is_pipeline) := ⟨rfl, rfl, rfl, by decide +kernel, rfl, by decide +kernel, by decide +kernel⟩
def sp_is_pipeline (K : PySem.W.Frag) : Sp := fun vs H Q _ => ∃ v d, vs = [v] ∧ Dp K H v d ∧ SeqAt.shaped d = true ∧ ∀ H', Same H H' → Q (.bl (isPipeD d)) H'
theorem sp_is_pipeline_len {vs H Q E} (h : sp_is_pipeline K vs H Q E) : vs.length = 1 := by obtain ⟨v, d, rfl, _⟩ := h; rfl
theorem u_is_pipeline {v : V} {d : PyData} {H : Hp} {Q : VK} {E : XK} (h : Dp K H v d) (s : SeqAt.shaped d = true) (k : ∀ H', Same H H' → Q (.bl (isPipeD d)) H') : sp_is_pipeline K [v] H Q E := ⟨v, d, rfl, h, s, k⟩
theorem u_is_pipelineQ {v : V} {p : Pipe} {H : Hp} {Q : VK} {E : XK} (h : PipeAt K H v p) (k : ∀ H', Same H H' → Q (.bl (isPipeD (pipeD p))) H') : sp_is_pipeline K [v] H Q E :=
  ⟨v, pipeD p, rfl, h.dp, shaped_pipe p, k⟩
theorem u_is_pipelineP {v : V} {p : Pipe} {H : Hp} {Q : VK} {E : XK} (h : PipeAt K H v p) (ok : p.ok) (k : ∀ H', Same H H' → Q (.bl true) H') : sp_is_pipeline K [v] H Q E :=
  ⟨v, pipeD p, rfl, h.dp, shaped_pipe p, fun H' hs => by rw [isPipeD_pipe.mpr ok]; exact k H' hs⟩
abbrev s_need_pipeline : Stmt := topS 20
abbrev n_need_pipeline : List Str := ["value"]
theorem sc_need_pipeline : FnScope n_need_pipeline ["value"] (defScope s_need_pipeline) := ⟨rfl, rfl, rfl, by decide +kernel, rfl, by decide +kernel, by decide +kernel⟩
def sp_need_pipeline (K : PySem.W.Frag) : Sp := fun vs H Q _ => ∃ v p, vs = [v] ∧ PipeAt K H v p ∧ p.ok ∧ ∀ H', Same H H' → Q .non H'
theorem sp_need_pipeline_len {vs H Q E} (h : sp_need_pipeline K vs H Q E) : vs.length = 1 := by obtain ⟨v, d, rfl, _⟩ := h; rfl
theorem u_need_pipeline {v : V} {p : Pipe} {H : Hp} {Q : VK} {E : XK} (h : PipeAt K H v p) (s : p.ok) (k : ∀ H', Same H H' → Q .non H') : sp_need_pipeline K [v] H Q E := ⟨v, p, rfl, h, s, k⟩
abbrev s_need_integer : Stmt := topS 21
abbrev n_need_integer : List Str := ["value"]
theorem sc_need_integer : FnScope n_need_integer ["value"] (defScope s_need_integer) := ⟨rfl, rfl, rfl, by decide +kernel, rfl, by decide +kernel, by decide +kernel⟩
def sp_need_integer (K : PySem.W.Frag) : Sp := fun vs H Q _ => ∃ x : Int, vs = [.int x] ∧ (-1000000000000000000 ≤ x ∧ x ≤ 1000000000000000000) ∧ ∀ H', Same H H' → Q .non H'
theorem sp_need_integer_len {vs H Q E} (h : sp_need_integer K vs H Q E) : vs.length = 1 := by obtain ⟨v, rfl, _⟩ := h; rfl
theorem u_need_integer {x : Int} {H : Hp} {Q : VK} {E : XK} (h : -1000000000000000000 ≤ x ∧ x ≤ 1000000000000000000) (k : ∀ H', Same H H' → Q .non H') : sp_need_integer K [.int x] H Q E := ⟨x, rfl, h, k⟩
abbrev s_need_range : Stmt := topS 22
abbrev n_need_range : List Str := ["low", "high"]
theorem sc_need_range : FnScope n_need_range ["low", "high"] (defScope s_need_range) := ⟨rfl, rfl, rfl, by decide +kernel, rfl, by decide +kernel, by decide +kernel⟩
def sp_need_range (K : PySem.W.Frag) : Sp := fun vs H Q _ => ∃ lo hi : Int, vs = [.int lo, .int hi] ∧ (-1000000000000000000 ≤ lo ∧ lo ≤ hi ∧ hi ≤ 1000000000000000000) ∧ ∀ H', Same H H' → Q .non H'
theorem sp_need_range_len {vs H Q E} (h : sp_need_range K vs H Q E) : vs.length = 2 := by obtain ⟨v, w, rfl, _⟩ := h; rfl
theorem u_need_range {lo hi : Int} {H : Hp} {Q : VK} {E : XK} (h : -1000000000000000000 ≤ lo ∧ lo ≤ hi ∧ hi ≤ 1000000000000000000) (k : ∀ H', Same H H' → Q .non H') : sp_need_range K [.int lo, .int hi] H Q E := ⟨lo, hi, rfl, h, k⟩
abbrev s_step_value : Stmt := topS 23
abbrev n_step_value : List Str := ["step", "x", "m", "quotient", "rest"]
theorem sc_step_value : FnScope n_step_value ["step", "x"] (defScope s_step_value) := ⟨rfl, rfl, rfl, by decide +kernel, rfl, by decide +kernel, by decide +kernel⟩
def sp_step_value (K : PySem.W.Frag) : Sp := fun vs H Q _ => ∃ v s x, vs = [v, .int x] ∧ StepAt K H v s ∧ s.pos ∧ ∀ H', Same H H' → Q (.int (s.val x)) H'
theorem sp_step_value_len {vs H Q E} (h : sp_step_value K vs H Q E) : vs.length = 2 := by obtain ⟨v, s, x, rfl, _⟩ := h; rfl
theorem u_step_value {v : V} {s : Step} {x : Int} {H : Hp} {Q : VK} {E : XK} (h : StepAt K H v s) (p : s.pos) (k : ∀ H', Same H H' → Q (.int (s.val x)) H') : sp_step_value K [v, .int x] H Q E := ⟨v, s, x, rfl, h, p, k⟩
abbrev s_value_at : Stmt := topS 24
abbrev n_value_at : List Str := ["pipeline", "x", "step"]
theorem sc_value_at : FnScope n_value_at ["pipeline", "x"] (defScope s_value_at) := ⟨rfl, rfl, rfl, by decide +kernel, rfl, by decide +kernel, by decide +kernel⟩
def sp_value_at (K : PySem.W.Frag) : Sp := fun vs H Q _ => ∃ v p x, vs = [v, .int x] ∧ PipeAt K H v p ∧ p.pos ∧ ∀ H', Same H H' → Q (.int (p.val x)) H'
theorem sp_value_at_len {vs H Q E} (h : sp_value_at K vs H Q E) : vs.length = 2 := by obtain ⟨v, s, x, rfl, _⟩ := h; rfl
theorem u_value_at {v : V} {p : Pipe} {x : Int} {H : Hp} {Q : VK} {E : XK} (h : PipeAt K H v p) (o : p.pos) (k : ∀ H', Same H H' → Q (.int (p.val x)) H') : sp_value_at K [v, .int x] H Q E := ⟨v, p, x, rfl, h, o, k⟩
abbrev s_apply : Stmt := topS 25
abbrev n_apply : List Str := ["pipeline", "x"]
theorem sc_apply : FnScope n_apply ["pipeline", "x"] (defScope s_apply) := ⟨rfl, rfl, rfl, by decide +kernel, rfl, by decide +kernel, by decide +kernel⟩
def ArgI (x : Int) : Prop := -1000000000000000000 ≤ x ∧ x ≤ 1000000000000000000
def sp_apply (K : PySem.W.Frag) : Sp := fun vs H Q _ => ∃ v p x, vs = [v, .int x] ∧ PipeAt K H v p ∧ p.ok ∧ (-1000000000000000000 ≤ x ∧ x ≤ 1000000000000000000) ∧ ∀ H', Same H H' → Q (.int (p.val x)) H'
theorem sp_apply_len {vs H Q E} (h : sp_apply K vs H Q E) : vs.length = 2 := by obtain ⟨v, s, x, rfl, _⟩ := h; rfl
theorem u_apply {v : V} {p : Pipe} {x : Int} {H : Hp} {Q : VK} {E : XK} (h : PipeAt K H v p) (o : p.ok) (b : -1000000000000000000 ≤ x ∧ x ≤ 1000000000000000000) (k : ∀ H', Same H H' → Q (.int (p.val x)) H') : sp_apply K [v, .int x] H Q E := ⟨v, p, x, rfl, h, o, b, k⟩
abbrev s_greatest_divisor : Stmt := topS 27
abbrev n_greatest_divisor : List Str := ["a", "b"]
theorem sc_greatest_divisor : FnScope n_greatest_divisor ["a", "b"] (defScope s_greatest_divisor) := ⟨rfl, rfl, rfl, by decide +kernel, rfl, by decide +kernel, by decide +kernel⟩
def sp_greatest_divisor (K : PySem.W.Frag) : Sp := fun vs H Q _ => ∃ a b : Int, vs = [.int a, .int b] ∧ 0 ≤ a ∧ 0 ≤ b ∧ ∀ H', Same H H' → Q (.int (gcdI a b)) H'
theorem sp_greatest_divisor_len {vs H Q E} (h : sp_greatest_divisor K vs H Q E) : vs.length = 2 := by obtain ⟨a, b, rfl, _⟩ := h; rfl
theorem u_greatest_divisor {a b : Int} {H : Hp} {Q : VK} {E : XK} (h : 0 ≤ a) (h' : 0 ≤ b) (k : ∀ H', Same H H' → Q (.int (gcdI a b)) H') : sp_greatest_divisor K [.int a, .int b] H Q E := ⟨a, b, rfl, h, h', k⟩
abbrev s_fraction : Stmt := topS 28
abbrev n_fraction : List Str := ["top", "bottom", "divisor"]
theorem sc_fraction : FnScope n_fraction ["top", "bottom"] (defScope s_fraction) := ⟨rfl, rfl, rfl, by decide +kernel, rfl, by decide +kernel, by decide +kernel⟩
def sp_fraction (K : PySem.W.Frag) : Sp := fun vs H Q _ => ∃ t b : Int, vs = [.int t, .int b] ∧ (0 < b ∧ b < 1000000000) ∧ ∀ p H', Same H H' → SqT K H' p [.int (frTop t b), .int (frBot t b)] → Q (.ref p) H'
theorem sp_fraction_len {vs H Q E} (h : sp_fraction K vs H Q E) : vs.length = 2 := by obtain ⟨a, b, rfl, _⟩ := h; rfl
theorem u_fraction {t b : Int} {H : Hp} {Q : VK} {E : XK} (h : 0 < b ∧ b < 1000000000) (k : ∀ p H', Same H H' → SqT K H' p [.int (frTop t b), .int (frBot t b)] → Q (.ref p) H') : sp_fraction K [.int t, .int b] H Q E := ⟨t, b, rfl, h, k⟩
abbrev s_some_period : Stmt := topS 29
abbrev n_some_period : List Str := ["steps", "length", "rise", "step", "own_length", "own_rise", "times"]
theorem sc_some_period : FnScope n_some_period ["steps"] (defScope s_some_period) := ⟨rfl, rfl, rfl, by decide +kernel, rfl, by decide +kernel, by decide +kernel⟩
def sp_some_period (K : PySem.W.Frag) : Sp := fun vs H Q _ => ∃ v p, vs = [v] ∧ PipeAt K H v p ∧ p.pos ∧ ∀ a L R H', Same H H' → SqT K H' a [.int L, .int R] → QP p.val L R → (1 ≤ L ∧ L ≤ p.prod) → 1 ≤ R → Q (.ref a) H'
theorem sp_some_period_len {vs H Q E} (h : sp_some_period K vs H Q E) : vs.length = 1 := by obtain ⟨a, b, rfl, _⟩ := h; rfl
theorem u_some_period {v : V} {p : Pipe} {H : Hp} {Q : VK} {E : XK} (h : PipeAt K H v p) (o : p.pos) (k : ∀ a L R H', Same H H' → SqT K H' a [.int L, .int R] → QP p.val L R → (1 ≤ L ∧ L ≤ p.prod) → 1 ≤ R → Q (.ref a) H') : sp_some_period K [v] H Q E := ⟨v, p, rfl, h, o, k⟩
abbrev s_differences : Stmt := topS 30
abbrev n_differences : List Str := ["steps", "length", "values", "x", "before", "after"]
theorem sc_differences : FnScope n_differences ["steps", "length"] (defScope s_differences) := ⟨rfl, rfl, rfl, by decide +kernel, rfl, by decide +kernel, by decide +kernel⟩
def sp_differences (K : PySem.W.Frag) : Sp := fun vs H Q _ => ∃ v p n, vs = [v, .int n] ∧ PipeAt K H v p ∧ p.pos ∧ (0 ≤ n ∧ n ≤ 1000000) ∧ ∀ a H', Same H H' → H a = none → H' a = some (.lst ((diffs p.val n.toNat).map V.int)) → Q (.ref a) H'
theorem sp_differences_len {vs H Q E} (h : sp_differences K vs H Q E) : vs.length = 2 := by obtain ⟨a, b, n, rfl, _⟩ := h; rfl
theorem u_differences {v : V} {p : Pipe} {n : Int} {H : Hp} {Q : VK} {E : XK} (h : PipeAt K H v p) (o : p.pos) (b : 0 ≤ n ∧ n ≤ 1000000) (k : ∀ a H', Same H H' → H a = none → H' a = some (.lst ((diffs p.val n.toNat).map V.int)) → Q (.ref a) H') : sp_differences K [v, .int n] H Q E := ⟨v, p, n, rfl, h, o, b, k⟩
abbrev s_least_period : Stmt := topS 31
abbrev n_least_period : List Str := ["steps", "length", "rise", "row", "shorter"]
theorem sc_least_period : FnScope n_least_period ["steps"] (defScope s_least_period) := ⟨rfl, rfl, rfl, by decide +kernel, rfl, by decide +kernel, by decide +kernel⟩
def sp_least_period (K : PySem.W.Frag) : Sp := fun vs H Q _ => ∃ v p, vs = [v] ∧ PipeAt K H v p ∧ p.pos ∧ p.prod ≤ 100000 ∧ ∀ a P R H', Same H H' → SqT K H' a [.int P, .int R] → Least p.val P R → Q (.ref a) H'
theorem sp_least_period_len {vs H Q E} (h : sp_least_period K vs H Q E) : vs.length = 1 := by obtain ⟨a, b, rfl, _⟩ := h; rfl
theorem u_least_period {v : V} {p : Pipe} {H : Hp} {Q : VK} {E : XK} (h : PipeAt K H v p) (o : p.pos) (b : p.prod ≤ 100000) (k : ∀ a P R H', Same H H' → SqT K H' a [.int P, .int R] → Least p.val P R → Q (.ref a) H') : sp_least_period K [v] H Q E := ⟨v, p, rfl, h, o, b, k⟩
abbrev s_period : Stmt := topS 32
abbrev n_period : List Str := ["pipeline"]
theorem sc_period : FnScope n_period ["pipeline"] (defScope s_period) := ⟨rfl, rfl, rfl, by decide +kernel, rfl, by decide +kernel, by decide +kernel⟩
def sp_period (K : PySem.W.Frag) : Sp := fun vs H Q _ => ∃ v p, vs = [v] ∧ PipeAt K H v p ∧ p.ok ∧ ∀ a P R H', Same H H' → SqT K H' a [.int P, .int R] → Least p.val P R → Q (.ref a) H'
theorem sp_period_len {vs H Q E} (h : sp_period K vs H Q E) : vs.length = 1 := by obtain ⟨a, b, rfl, _⟩ := h; rfl
theorem u_period {v : V} {p : Pipe} {H : Hp} {Q : VK} {E : XK} (h : PipeAt K H v p) (o : p.ok) (k : ∀ a P R H', Same H H' → SqT K H' a [.int P, .int R] → Least p.val P R → Q (.ref a) H') : sp_period K [v] H Q E := ⟨v, p, rfl, h, o, k⟩
abbrev s_scaled_drift : Stmt := topS 33
abbrev n_scaled_drift : List Str := ["steps", "length", "rise", "row", "x"]
theorem sc_scaled_drift : FnScope n_scaled_drift ["steps"] (defScope s_scaled_drift) := ⟨rfl, rfl, rfl, by decide +kernel, rfl, by decide +kernel, by decide +kernel⟩
def sp_scaled_drift (K : PySem.W.Frag) : Sp := fun vs H Q _ => ∃ v p, vs = [v] ∧ PipeAt K H v p ∧ p.pos ∧ p.prod ≤ 100000 ∧ ∀ a P R lo hi H', Same H H' → SqT K H' a [.int P, .int R, .int lo, .int hi] → Least p.val P R → IsMin lo (scaled p.val P R) → IsMax hi (scaled p.val P R) → Q (.ref a) H'
theorem sp_scaled_drift_len {vs H Q E} (h : sp_scaled_drift K vs H Q E) : vs.length = 1 := by obtain ⟨a, b, rfl, _⟩ := h; rfl
theorem u_scaled_drift {v : V} {p : Pipe} {H : Hp} {Q : VK} {E : XK} (h : PipeAt K H v p) (o : p.pos) (b : p.prod ≤ 100000) (k : ∀ a P R lo hi H', Same H H' → SqT K H' a [.int P, .int R, .int lo, .int hi] → Least p.val P R → IsMin lo (scaled p.val P R) → IsMax hi (scaled p.val P R) → Q (.ref a) H') : sp_scaled_drift K [v] H Q E := ⟨v, p, rfl, h, o, b, k⟩
abbrev s_drift : Stmt := topS 34
abbrev n_drift : List Str := ["pipeline", "length", "rise", "low", "high"]
theorem sc_drift : FnScope n_drift ["pipeline"] (defScope s_drift) := ⟨rfl, rfl, rfl, by decide +kernel, rfl, by decide +kernel, by decide +kernel⟩
def sp_drift (K : PySem.W.Frag) : Sp := fun vs H Q _ => ∃ v p, vs = [v] ∧ PipeAt K H v p ∧ p.ok ∧ ∀ v' P R lo hi H', Same H H' → Dp K H' v' (.tuple [frD lo P, frD hi P]) → Least p.val P R → IsMin lo (scaled p.val P R) → IsMax hi (scaled p.val P R) → Q v' H'
theorem sp_drift_len {vs H Q E} (h : sp_drift K vs H Q E) : vs.length = 1 := by obtain ⟨a, b, rfl, _⟩ := h; rfl
theorem u_drift {v : V} {p : Pipe} {H : Hp} {Q : VK} {E : XK} (h : PipeAt K H v p) (o : p.ok) (k : ∀ v' P R lo hi H', Same H H' → Dp K H' v' (.tuple [frD lo P, frD hi P]) → Least p.val P R → IsMin lo (scaled p.val P R) → IsMax hi (scaled p.val P R) → Q v' H') : sp_drift K [v] H Q E := ⟨v, p, rfl, h, o, k⟩
abbrev s_step_first : Stmt := topS 36
abbrev n_step_first : List Str := ["step", "y", "tag", "k", "m", "c"]
theorem sc_step_first : FnScope n_step_first ["step", "y"] (defScope s_step_first) := ⟨rfl, rfl, rfl, by decide +kernel, rfl, by decide +kernel, by decide +kernel⟩
def sp_step_first (K : PySem.W.Frag) : Sp := fun vs H Q _ => ∃ v s x, vs = [v, .int x] ∧ StepAt K H v s ∧ s.pos ∧ ∀ H', Same H H' → Q (.int (s.first x)) H'
theorem sp_step_first_len {vs H Q E} (h : sp_step_first K vs H Q E) : vs.length = 2 := by obtain ⟨v, s, x, rfl, _⟩ := h; rfl
theorem u_step_first {v : V} {s : Step} {x : Int} {H : Hp} {Q : VK} {E : XK} (h : StepAt K H v s) (p : s.pos) (k : ∀ H', Same H H' → Q (.int (s.first x)) H') : sp_step_first K [v, .int x] H Q E := ⟨v, s, x, rfl, h, p, k⟩
abbrev s_first_of : Stmt := topS 37
abbrev n_first_of : List Str := ["steps", "y", "step"]
theorem sc_first_of : FnScope n_first_of ["steps", "y"] (defScope s_first_of) := ⟨rfl, rfl, rfl, by decide +kernel, rfl, by decide +kernel, by decide +kernel⟩
def sp_first_of (K : PySem.W.Frag) : Sp := fun vs H Q _ => ∃ v p y, vs = [v, .int y] ∧ PipeAt K H v p ∧ p.pos ∧ ∀ H', Same H H' → Q (.int (p.first y)) H'
theorem sp_first_of_len {vs H Q E} (h : sp_first_of K vs H Q E) : vs.length = 2 := by obtain ⟨v, p, y, rfl, _⟩ := h; rfl
theorem u_first_of {v : V} {p : Pipe} {y : Int} {H : Hp} {Q : VK} {E : XK} (h : PipeAt K H v p) (o0 : p.pos) (k : ∀ H', Same H H' → Q (.int (p.first y)) H') : sp_first_of K [v, .int y] H Q E := ⟨v, p, y, rfl, h, o0, k⟩
abbrev s_last_of : Stmt := topS 38
abbrev n_last_of : List Str := ["steps", "y"]
theorem sc_last_of : FnScope n_last_of ["steps", "y"] (defScope s_last_of) := ⟨rfl, rfl, rfl, by decide +kernel, rfl, by decide +kernel, by decide +kernel⟩
def sp_last_of (K : PySem.W.Frag) : Sp := fun vs H Q _ => ∃ v p y, vs = [v, .int y] ∧ PipeAt K H v p ∧ p.pos ∧ ∀ H', Same H H' → Q (.int (p.last y)) H'
theorem sp_last_of_len {vs H Q E} (h : sp_last_of K vs H Q E) : vs.length = 2 := by obtain ⟨v, p, y, rfl, _⟩ := h; rfl
theorem u_last_of {v : V} {p : Pipe} {y : Int} {H : Hp} {Q : VK} {E : XK} (h : PipeAt K H v p) (o0 : p.pos) (k : ∀ H', Same H H' → Q (.int (p.last y)) H') : sp_last_of K [v, .int y] H Q E := ⟨v, p, y, rfl, h, o0, k⟩
abbrev s_first_at_least : Stmt := topS 39
abbrev n_first_at_least : List Str := ["pipeline", "y"]
theorem sc_first_at_least : FnScope n_first_at_least ["pipeline", "y"] (defScope s_first_at_least) := ⟨rfl, rfl, rfl, by decide +kernel, rfl, by decide +kernel, by decide +kernel⟩
def sp_first_at_least (K : PySem.W.Frag) : Sp := fun vs H Q _ => ∃ v p y, vs = [v, .int y] ∧ PipeAt K H v p ∧ p.ok ∧ (-1000000000000000000 ≤ y ∧ y ≤ 1000000000000000000) ∧ ∀ H', Same H H' → Q (.int (p.first y)) H'
theorem sp_first_at_least_len {vs H Q E} (h : sp_first_at_least K vs H Q E) : vs.length = 2 := by obtain ⟨v, p, y, rfl, _⟩ := h; rfl
theorem u_first_at_least {v : V} {p : Pipe} {y : Int} {H : Hp} {Q : VK} {E : XK} (h : PipeAt K H v p) (o0 : p.ok) (o1 : (-1000000000000000000 ≤ y ∧ y ≤ 1000000000000000000)) (k : ∀ H', Same H H' → Q (.int (p.first y)) H') : sp_first_at_least K [v, .int y] H Q E := ⟨v, p, y, rfl, h, o0, o1, k⟩
abbrev s_last_at_most : Stmt := topS 40
abbrev n_last_at_most : List Str := ["pipeline", "y"]
theorem sc_last_at_most : FnScope n_last_at_most ["pipeline", "y"] (defScope s_last_at_most) := ⟨rfl, rfl, rfl, by decide +kernel, rfl, by decide +kernel, by decide +kernel⟩
def sp_last_at_most (K : PySem.W.Frag) : Sp := fun vs H Q _ => ∃ v p y, vs = [v, .int y] ∧ PipeAt K H v p ∧ p.ok ∧ (-1000000000000000000 ≤ y ∧ y ≤ 1000000000000000000) ∧ ∀ H', Same H H' → Q (.int (p.last y)) H'
theorem sp_last_at_most_len {vs H Q E} (h : sp_last_at_most K vs H Q E) : vs.length = 2 := by obtain ⟨v, p, y, rfl, _⟩ := h; rfl
theorem u_last_at_most {v : V} {p : Pipe} {y : Int} {H : Hp} {Q : VK} {E : XK} (h : PipeAt K H v p) (o0 : p.ok) (o1 : (-1000000000000000000 ≤ y ∧ y ≤ 1000000000000000000)) (k : ∀ H', Same H H' → Q (.int (p.last y)) H') : sp_last_at_most K [v, .int y] H Q E := ⟨v, p, y, rfl, h, o0, o1, k⟩
abbrev s_interval_of : Stmt := topS 41
abbrev n_interval_of : List Str := ["steps", "y", "low", "high"]
theorem sc_interval_of : FnScope n_interval_of ["steps", "y"] (defScope s_interval_of) := ⟨rfl, rfl, rfl, by decide +kernel, rfl, by decide +kernel, by decide +kernel⟩
def sp_interval_of (K : PySem.W.Frag) : Sp := fun vs H Q _ => ∃ v p y, vs = [v, .int y] ∧ PipeAt K H v p ∧ p.pos ∧ ∀ v' H', Same H H' → Dp K H' v' (ivD p y) → Q v' H'
theorem sp_interval_of_len {vs H Q E} (h : sp_interval_of K vs H Q E) : vs.length = 2 := by obtain ⟨v, p, y, rfl, _⟩ := h; rfl
theorem u_interval_of {v : V} {p : Pipe} {y : Int} {H : Hp} {Q : VK} {E : XK} (h : PipeAt K H v p) (o0 : p.pos) (k : ∀ v' H', Same H H' → Dp K H' v' (ivD p y) → Q v' H') : sp_interval_of K [v, .int y] H Q E := ⟨v, p, y, rfl, h, o0, k⟩
abbrev s_preimage : Stmt := topS 42
abbrev n_preimage : List Str := ["pipeline", "y"]
theorem sc_preimage : FnScope n_preimage ["pipeline", "y"] (defScope s_preimage) := ⟨rfl, rfl, rfl, by decide +kernel, rfl, by decide +kernel, by decide +kernel⟩
def sp_preimage (K : PySem.W.Frag) : Sp := fun vs H Q _ => ∃ v p y, vs = [v, .int y] ∧ PipeAt K H v p ∧ p.ok ∧ (-1000000000000000000 ≤ y ∧ y ≤ 1000000000000000000) ∧ ∀ v' H', Same H H' → Dp K H' v' (ivD p y) → Q v' H'
theorem sp_preimage_len {vs H Q E} (h : sp_preimage K vs H Q E) : vs.length = 2 := by obtain ⟨v, p, y, rfl, _⟩ := h; rfl
theorem u_preimage {v : V} {p : Pipe} {y : Int} {H : Hp} {Q : VK} {E : XK} (h : PipeAt K H v p) (o0 : p.ok) (o1 : (-1000000000000000000 ≤ y ∧ y ≤ 1000000000000000000)) (k : ∀ v' H', Same H H' → Dp K H' v' (ivD p y) → Q v' H') : sp_preimage K [v, .int y] H Q E := ⟨v, p, y, rfl, h, o0, o1, k⟩
abbrev s_inverse_pipeline : Stmt := topS 43
abbrev n_inverse_pipeline : List Str := ["pipeline", "last", "steps", "step", "tag", "k", "m", "c"]
theorem sc_inverse_pipeline : FnScope n_inverse_pipeline ["pipeline", "last"] (defScope s_inverse_pipeline) := ⟨rfl, rfl, rfl, by decide +kernel, rfl, by decide +kernel, by decide +kernel⟩
def sp_inverse_pipeline (K : PySem.W.Frag) : Sp := fun vs H Q _ => ∃ v p l, vs = [v, .bl l] ∧ PipeAt K H v p ∧ p.ok ∧ ∀ v' H', Same H H' → Dp K H' v' (invD l p) → Q v' H'
theorem sp_inverse_pipeline_len {vs H Q E} (h : sp_inverse_pipeline K vs H Q E) : vs.length = 2 := by obtain ⟨v, p, l, rfl, _⟩ := h; rfl
theorem u_inverse_pipeline {v : V} {p : Pipe} {l : Bool} {H : Hp} {Q : VK} {E : XK} (h : PipeAt K H v p) (o : p.ok) (k : ∀ v' H', Same H H' → Dp K H' v' (invD l p) → Q v' H') : sp_inverse_pipeline K [v, .bl l] H Q E := ⟨v, p, l, rfl, h, o, k⟩
abbrev s_first_inverse : Stmt := topS 44
abbrev n_first_inverse : List Str := ["pipeline"]
theorem sc_first_inverse : FnScope n_first_inverse ["pipeline"] (defScope s_first_inverse) := ⟨rfl, rfl, rfl, by decide +kernel, rfl, by decide +kernel, by decide +kernel⟩
def sp_first_inverse (K : PySem.W.Frag) : Sp := fun vs H Q _ => ∃ v p, vs = [v] ∧ PipeAt K H v p ∧ p.ok ∧ ∀ v' H', Same H H' → Dp K H' v' (invD false p) → Q v' H'
theorem sp_first_inverse_len {vs H Q E} (h : sp_first_inverse K vs H Q E) : vs.length = 1 := by obtain ⟨v, p, rfl, _⟩ := h; rfl
theorem u_first_inverse {v : V} {p : Pipe} {H : Hp} {Q : VK} {E : XK} (h : PipeAt K H v p) (o : p.ok) (k : ∀ v' H', Same H H' → Dp K H' v' (invD false p) → Q v' H') : sp_first_inverse K [v] H Q E := ⟨v, p, rfl, h, o, k⟩
abbrev s_undoes : Stmt := topS 45
abbrev n_undoes : List Str := ["first", "second", "steps", "length", "rise", "x"]
theorem sc_undoes : FnScope n_undoes ["first", "second"] (defScope s_undoes) := ⟨rfl, rfl, rfl, by decide +kernel, rfl, by decide +kernel, by decide +kernel⟩
def sp_undoes (K : PySem.W.Frag) : Sp := fun vs H Q _ => ∃ v w p q, vs = [v, w] ∧ PipeAt K H v p ∧ PipeAt K H w q ∧ p.ok ∧ q.ok ∧ ∀ b H', Same H H' → (b = true ↔ ∀ x, p.val (q.val x) = x) → Q (.bl b) H'
theorem sp_undoes_len {vs H Q E} (h : sp_undoes K vs H Q E) : vs.length = 2 := by obtain ⟨v, w, p, q, rfl, _⟩ := h; rfl
theorem u_undoes {v w : V} {p q : Pipe} {H : Hp} {Q : VK} {E : XK} (h : PipeAt K H v p) (h' : PipeAt K H w q) (o : p.ok) (o' : q.ok) (k : ∀ b H', Same H H' → (b = true ↔ ∀ x, p.val (q.val x) = x) → Q (.bl b) H') : sp_undoes K [v, w] H Q E := ⟨v, w, p, q, rfl, h, h', o, o', k⟩
abbrev s_search_order : Stmt := topS 46
abbrev n_search_order : List Str := ["count", "found", "size"]
theorem sc_search_order : FnScope n_search_order ["count"] (defScope s_search_order) := ⟨rfl, rfl, rfl, by decide +kernel, rfl, by decide +kernel, by decide +kernel⟩
def sp_search_order (K : PySem.W.Frag) : Sp := fun vs H Q _ => ∃ n : Int, vs = [.int n] ∧ (0 ≤ n ∧ n ≤ 100000) ∧ ∀ a H', Same H H' → H' a = some (.lst ((ordL n.toNat).map V.int)) → Q (.ref a) H'
theorem sp_search_order_len {vs H Q E} (h : sp_search_order K vs H Q E) : vs.length = 1 := by obtain ⟨n, rfl, _⟩ := h; rfl
theorem u_search_order {n : Int} {H : Hp} {Q : VK} {E : XK} (o : 0 ≤ n ∧ n ≤ 100000) (k : ∀ a H', Same H H' → H' a = some (.lst ((ordL n.toNat).map V.int)) → Q (.ref a) H') : sp_search_order K [.int n] H Q E := ⟨n, rfl, o, k⟩
abbrev s_collision : Stmt := topS 47
abbrev n_collision : List Str := ["pipeline", "length", "rise", "row", "x"]
theorem sc_collision : FnScope n_collision ["pipeline"] (defScope s_collision) := ⟨rfl, rfl, rfl, by decide +kernel, rfl, by decide +kernel, by decide +kernel⟩
def sp_collision (K : PySem.W.Frag) : Sp := fun vs H Q _ => ∃ v p, vs = [v] ∧ PipeAt K H v p ∧ p.ok ∧ ∀ P R H', Same H H' → Least p.val P R → Q (optV (hitL p.val (ordL P.toNat))) H'
theorem sp_collision_len {vs H Q E} (h : sp_collision K vs H Q E) : vs.length = 1 := by obtain ⟨a, b, rfl, _⟩ := h; rfl
theorem u_collision {v : V} {p : Pipe} {H : Hp} {Q : VK} {E : XK} (h : PipeAt K H v p) (o : p.ok) (k : ∀ P R H', Same H H' → Least p.val P R → Q (optV (hitL p.val (ordL P.toNat))) H') : sp_collision K [v] H Q E := ⟨v, p, rfl, h, o, k⟩
abbrev s_differ_first : Stmt := topS 49
abbrev n_differ_first : List Str := ["first", "second", "count", "x"]
theorem sc_differ_first : FnScope n_differ_first ["first", "second"] (defScope s_differ_first) := ⟨rfl, rfl, rfl, by decide +kernel, rfl, by decide +kernel, by decide +kernel⟩
def sp_differ_first (K : PySem.W.Frag) : Sp := fun vs H Q _ => ∃ v w p q, vs = [v, w] ∧ PipeAt K H v p ∧ PipeAt K H w q ∧ p.pos ∧ q.pos ∧ p.prod ≤ 40000 ∧ q.prod ≤ 40000 ∧ ∀ o H', Same H H' → DifO p q o → Q (optV o) H'
theorem sp_differ_first_len {vs H Q E} (h : sp_differ_first K vs H Q E) : vs.length = 2 := by obtain ⟨v, w, p, q, rfl, _⟩ := h; rfl
theorem u_differ_first {v w : V} {p q : Pipe} {H : Hp} {Q : VK} {E : XK} (h : PipeAt K H v p) (h' : PipeAt K H w q) (o : p.pos) (o' : q.pos) (c : p.prod ≤ 40000) (c' : q.prod ≤ 40000) (k : ∀ o H', Same H H' → DifO p q o → Q (optV o) H') : sp_differ_first K [v, w] H Q E := ⟨v, w, p, q, rfl, h, h', o, o', c, c', k⟩
abbrev s_equal : Stmt := topS 50
abbrev n_equal : List Str := ["first", "second"]
theorem sc_equal : FnScope n_equal ["first", "second"] (defScope s_equal) := ⟨rfl, rfl, rfl, by decide +kernel, rfl, by decide +kernel, by decide +kernel⟩
def sp_equal (K : PySem.W.Frag) : Sp := fun vs H Q _ => ∃ v w p q, vs = [v, w] ∧ PipeAt K H v p ∧ PipeAt K H w q ∧ p.ok ∧ q.ok ∧ ∀ b H', Same H H' → (b = true ↔ ∀ x, p.val x = q.val x) → Q (.bl b) H'
theorem sp_equal_len {vs H Q E} (h : sp_equal K vs H Q E) : vs.length = 2 := by obtain ⟨v, w, p, q, rfl, _⟩ := h; rfl
theorem u_equal {v w : V} {p q : Pipe} {H : Hp} {Q : VK} {E : XK} (h : PipeAt K H v p) (h' : PipeAt K H w q) (o : p.ok) (o' : q.ok) (k : ∀ b H', Same H H' → (b = true ↔ ∀ x, p.val x = q.val x) → Q (.bl b) H') : sp_equal K [v, w] H Q E := ⟨v, w, p, q, rfl, h, h', o, o', k⟩
abbrev s_first_difference : Stmt := topS 51
abbrev n_first_difference : List Str := ["first", "second"]
theorem sc_first_difference : FnScope n_first_difference ["first", "second"] (defScope s_first_difference) := ⟨rfl, rfl, rfl, by decide +kernel, rfl, by decide +kernel, by decide +kernel⟩
def sp_first_difference (K : PySem.W.Frag) : Sp := fun vs H Q _ => ∃ v w p q, vs = [v, w] ∧ PipeAt K H v p ∧ PipeAt K H w q ∧ p.ok ∧ q.ok ∧ ∀ o H', Same H H' → DifO p q o → Q (optV o) H'
theorem sp_first_difference_len {vs H Q E} (h : sp_first_difference K vs H Q E) : vs.length = 2 := by obtain ⟨v, w, p, q, rfl, _⟩ := h; rfl
theorem u_first_difference {v w : V} {p q : Pipe} {H : Hp} {Q : VK} {E : XK} (h : PipeAt K H v p) (h' : PipeAt K H w q) (o : p.ok) (o' : q.ok) (k : ∀ o H', Same H H' → DifO p q o → Q (optV o) H') : sp_first_difference K [v, w] H Q E := ⟨v, w, p, q, rfl, h, h', o, o', k⟩
abbrev s_common_gaps : Stmt := topS 52
abbrev n_common_gaps : List Str := ["first", "second", "one", "two", "length", "change", "x"]
theorem sc_common_gaps : FnScope n_common_gaps ["first", "second"] (defScope s_common_gaps) := ⟨rfl, rfl, rfl, by decide +kernel, rfl, by decide +kernel, by decide +kernel⟩
def sp_common_gaps (K : PySem.W.Frag) : Sp := fun vs H Q _ => ∃ v w p q, vs = [v, w] ∧ PipeAt K H v p ∧ PipeAt K H w q ∧ p.pos ∧ q.pos ∧ p.prod ≤ 900 ∧ q.prod ≤ 900 ∧ GapB p q ∧ ∀ (c l : Addr) (L C : Int) H', Same H H' → SqT K H' c [.int L, .int C, .ref l] → H' l = some (.lst (((List.range L.toNat).map fun (x : Nat) => gapF p q x).map V.int)) → QP (gapF p q) L C → 0 < L → L ≤ 810000 → -500000000 < C → C < 500000000 → Q (.ref c) H'
theorem sp_common_gaps_len {vs H Q E} (h : sp_common_gaps K vs H Q E) : vs.length = 2 := by obtain ⟨v, w, p, q, rfl, _⟩ := h; rfl
theorem u_common_gaps {v w : V} {p q : Pipe} {H : Hp} {Q : VK} {E : XK} (h : PipeAt K H v p) (h' : PipeAt K H w q) (o : p.pos) (o' : q.pos) (c : p.prod ≤ 900) (c' : q.prod ≤ 900) (g : GapB p q) (k : ∀ (c l : Addr) (L C : Int) H', Same H H' → SqT K H' c [.int L, .int C, .ref l] → H' l = some (.lst (((List.range L.toNat).map fun (x : Nat) => gapF p q x).map V.int)) → QP (gapF p q) L C → 0 < L → L ≤ 810000 → -500000000 < C → C < 500000000 → Q (.ref c) H') : sp_common_gaps K [v, w] H Q E := ⟨v, w, p, q, rfl, h, h', o, o', c, c', g, k⟩
abbrev s_first_above : Stmt := topS 53
abbrev n_first_above : List Str := ["first", "second", "length", "change", "gaps", "best", "residue", "gap", "turns"]
theorem sc_first_above : FnScope n_first_above ["first", "second"] (defScope s_first_above) := ⟨rfl, rfl, rfl, by decide +kernel, rfl, by decide +kernel, by decide +kernel⟩
def sp_first_above (K : PySem.W.Frag) : Sp := fun vs H Q _ => ∃ v w p q, vs = [v, w] ∧ PipeAt K H v p ∧ PipeAt K H w q ∧ p.ok ∧ q.ok ∧ GapB p q ∧ ∀ o H', Same H H' → AbO (gapF p q) o → Q (optV o) H'
theorem sp_first_above_len {vs H Q E} (h : sp_first_above K vs H Q E) : vs.length = 2 := by obtain ⟨v, w, p, q, rfl, _⟩ := h; rfl
theorem u_first_above {v w : V} {p q : Pipe} {H : Hp} {Q : VK} {E : XK} (h : PipeAt K H v p) (h' : PipeAt K H w q) (o : p.ok) (o' : q.ok) (g : GapB p q) (k : ∀ o H', Same H H' → AbO (gapF p q) o → Q (optV o) H') : sp_first_above K [v, w] H Q E := ⟨v, w, p, q, rfl, h, h', o, o', g, k⟩
abbrev s_count_residue : Stmt := topS 54
abbrev n_count_residue : List Str := ["length", "residue", "low", "high"]
theorem sc_count_residue : FnScope n_count_residue ["length", "residue", "low", "high"] (defScope s_count_residue) := ⟨rfl, rfl, rfl, by decide +kernel, rfl, by decide +kernel, by decide +kernel⟩
def sp_count_residue (K : PySem.W.Frag) : Sp := fun vs H Q _ => ∃ P r s e : Int, vs = [.int P, .int r, .int s, .int e] ∧ (0 < P ∧ P < 1000000) ∧ ∀ H', Same H H' → Q (.int (resC P r s e)) H'
theorem sp_count_residue_len {vs H Q E} (h : sp_count_residue K vs H Q E) : vs.length = 4 := by obtain ⟨v, w, a, b, rfl, _⟩ := h; rfl
theorem u_count_residue {P r s e : Int} {H : Hp} {Q : VK} {E : XK} (h : 0 < P ∧ P < 1000000) (k : ∀ H', Same H H' → Q (.int (resC P r s e)) H') : sp_count_residue K [.int P, .int r, .int s, .int e] H Q E := ⟨P, r, s, e, rfl, h, k⟩
abbrev s_count_equal : Stmt := topS 55
abbrev n_count_equal : List Str := ["first", "second", "low", "high", "length", "change", "gaps", "total", "residue", "gap", "x"]
theorem sc_count_equal : FnScope n_count_equal ["first", "second", "low", "high"] (defScope s_count_equal) := ⟨rfl, rfl, rfl, by decide +kernel, rfl, by decide +kernel, by decide +kernel⟩
def sp_count_equal (K : PySem.W.Frag) : Sp := fun vs H Q _ => ∃ v w p q lo hi, vs = [v, w, .int lo, .int hi] ∧ PipeAt K H v p ∧ PipeAt K H w q ∧ p.ok ∧ q.ok ∧ GapB p q ∧ (-1000000000000000000 ≤ lo ∧ lo ≤ hi ∧ hi ≤ 1000000000000000000) ∧ ∀ H', Same H H' → Q (.int (cntE p q lo hi)) H'
theorem sp_count_equal_len {vs H Q E} (h : sp_count_equal K vs H Q E) : vs.length = 4 := by obtain ⟨v, w, p, q, lo, hi, rfl, _⟩ := h; rfl
theorem u_count_equal {v w : V} {p q : Pipe} {lo hi : Int} {H : Hp} {Q : VK} {E : XK} (h : PipeAt K H v p) (h' : PipeAt K H w q) (o : p.ok) (o' : q.ok) (g : GapB p q) (b : -1000000000000000000 ≤ lo ∧ lo ≤ hi ∧ hi ≤ 1000000000000000000) (k : ∀ H', Same H H' → Q (.int (cntE p q lo hi)) H') : sp_count_equal K [v, w, .int lo, .int hi] H Q E := ⟨v, w, p, q, lo, hi, rfl, h, h', o, o', g, b, k⟩
abbrev s_count_steps : Stmt := topS 56
abbrev n_count_steps : List Str := ["pipeline", "low", "high", "repeated", "length", "start", "end", "total", "residue", "before", "here", "after", "good"]
theorem sc_count_steps : FnScope n_count_steps ["pipeline", "low", "high", "repeated"] (defScope s_count_steps) := ⟨rfl, rfl, rfl, by decide +kernel, rfl, by decide +kernel, by decide +kernel⟩
def sp_count_steps (K : PySem.W.Frag) : Sp := fun vs H Q _ => ∃ v p lo hi rep, vs = [v, .int lo, .int hi, .bl rep] ∧ PipeAt K H v p ∧ p.pos ∧ p.prod ≤ 100000 ∧ lo ≤ hi ∧ ∀ H', Same H H' → Q (.int (cntV p rep lo hi)) H'
theorem sp_count_steps_len {vs H Q E} (h : sp_count_steps K vs H Q E) : vs.length = 4 := by obtain ⟨v, w, a, b, c, rfl, _⟩ := h; rfl
theorem u_count_steps {v : V} {p : Pipe} {lo hi : Int} {rep : Bool} {H : Hp} {Q : VK} {E : XK} (h : PipeAt K H v p) (o : p.pos) (b : p.prod ≤ 100000) (c : lo ≤ hi) (k : ∀ H', Same H H' → Q (.int (cntV p rep lo hi)) H') : sp_count_steps K [v, .int lo, .int hi, .bl rep] H Q E := ⟨v, p, lo, hi, rep, rfl, h, o, b, c, k⟩
abbrev s_count_values : Stmt := topS 57
abbrev n_count_values : List Str := ["pipeline", "low", "high"]
theorem sc_count_values : FnScope n_count_values ["pipeline", "low", "high"] (defScope s_count_values) := ⟨rfl, rfl, rfl, by decide +kernel, rfl, by decide +kernel, by decide +kernel⟩
def sp_count_values (K : PySem.W.Frag) : Sp := fun vs H Q _ => ∃ v p lo hi, vs = [v, .int lo, .int hi] ∧ PipeAt K H v p ∧ p.ok ∧ (-1000000000000000000 ≤ lo ∧ lo ≤ hi ∧ hi ≤ 1000000000000000000) ∧ ∀ H', Same H H' → Q (.int (cntV p false lo hi)) H'
theorem sp_count_values_len {vs H Q E} (h : sp_count_values K vs H Q E) : vs.length = 3 := by obtain ⟨v, w, a, b, rfl, _⟩ := h; rfl
theorem u_count_values {v : V} {p : Pipe} {lo hi : Int} {H : Hp} {Q : VK} {E : XK} (h : PipeAt K H v p) (o : p.ok) (b : -1000000000000000000 ≤ lo ∧ lo ≤ hi ∧ hi ≤ 1000000000000000000) (k : ∀ H', Same H H' → Q (.int (cntV p false lo hi)) H') : sp_count_values K [v, .int lo, .int hi] H Q E := ⟨v, p, lo, hi, rfl, h, o, b, k⟩
abbrev s_count_repeated : Stmt := topS 58
abbrev n_count_repeated : List Str := ["pipeline", "low", "high"]
theorem sc_count_repeated : FnScope n_count_repeated ["pipeline", "low", "high"] (defScope s_count_repeated) := ⟨rfl, rfl, rfl, by decide +kernel, rfl, by decide +kernel, by decide +kernel⟩
def sp_count_repeated (K : PySem.W.Frag) : Sp := fun vs H Q _ => ∃ v p lo hi, vs = [v, .int lo, .int hi] ∧ PipeAt K H v p ∧ p.ok ∧ (-1000000000000000000 ≤ lo ∧ lo ≤ hi ∧ hi ≤ 1000000000000000000) ∧ ∀ H', Same H H' → Q (.int (cntV p true lo hi)) H'
theorem sp_count_repeated_len {vs H Q E} (h : sp_count_repeated K vs H Q E) : vs.length = 3 := by obtain ⟨v, w, a, b, rfl, _⟩ := h; rfl
theorem u_count_repeated {v : V} {p : Pipe} {lo hi : Int} {H : Hp} {Q : VK} {E : XK} (h : PipeAt K H v p) (o : p.ok) (b : -1000000000000000000 ≤ lo ∧ lo ≤ hi ∧ hi ≤ 1000000000000000000) (k : ∀ H', Same H H' → Q (.int (cntV p true lo hi)) H') : sp_count_repeated K [v, .int lo, .int hi] H Q E := ⟨v, p, lo, hi, rfl, h, o, b, k⟩
abbrev s_as_single : Stmt := topS 60
abbrev n_as_single : List Str := ["pipeline", "length", "rise", "low", "high"]
theorem sc_as_single : FnScope n_as_single ["pipeline"] (defScope s_as_single) := ⟨rfl, rfl, rfl, by decide +kernel, rfl, by decide +kernel, by decide +kernel⟩
def sp_as_single (K : PySem.W.Frag) : Sp := fun vs H Q _ => ∃ v p, vs = [v] ∧ PipeAt K H v p ∧ p.ok ∧ ∀ v' P R lo hi H', Same H H' → Dp K H' v' (asD P R lo hi) → Least p.val P R → IsMin lo (scaled p.val P R) → IsMax hi (scaled p.val P R) → Q v' H'
theorem sp_as_single_len {vs H Q E} (h : sp_as_single K vs H Q E) : vs.length = 1 := by obtain ⟨a, b, rfl, _⟩ := h; rfl
theorem u_as_single {v : V} {p : Pipe} {H : Hp} {Q : VK} {E : XK} (h : PipeAt K H v p) (o : p.ok) (k : ∀ v' P R lo hi H', Same H H' → Dp K H' v' (asD P R lo hi) → Least p.val P R → IsMin lo (scaled p.val P R) → IsMax hi (scaled p.val P R) → Q v' H') : sp_as_single K [v] H Q E := ⟨v, p, rfl, h, o, k⟩
abbrev s_spread : Stmt := topS 61
abbrev n_spread : List Str := ["pipeline", "length", "rise", "low", "high"]
theorem sc_spread : FnScope n_spread ["pipeline"] (defScope s_spread) := ⟨rfl, rfl, rfl, by decide +kernel, rfl, by decide +kernel, by decide +kernel⟩
def sp_spread (K : PySem.W.Frag) : Sp := fun vs H Q _ => ∃ v p, vs = [v] ∧ PipeAt K H v p ∧ p.ok ∧ ∀ a P R lo hi H', Same H H' → SqT K H' a [.int (frTop (hi - lo) P), .int (frBot (hi - lo) P)] → Least p.val P R → IsMin lo (scaled p.val P R) → IsMax hi (scaled p.val P R) → Q (.ref a) H'
theorem sp_spread_len {vs H Q E} (h : sp_spread K vs H Q E) : vs.length = 1 := by obtain ⟨a, b, rfl, _⟩ := h; rfl
theorem u_spread {v : V} {p : Pipe} {H : Hp} {Q : VK} {E : XK} (h : PipeAt K H v p) (o : p.ok) (k : ∀ a P R lo hi H', Same H H' → SqT K H' a [.int (frTop (hi - lo) P), .int (frBot (hi - lo) P)] → Least p.val P R → IsMin lo (scaled p.val P R) → IsMax hi (scaled p.val P R) → Q (.ref a) H') : sp_spread K [v] H Q E := ⟨v, p, rfl, h, o, k⟩
abbrev s_is_sample : Stmt := topS 65
abbrev n_is_sample : List Str := ["value", "part"]
theorem sc_is_sample : FnScope n_is_sample ["value"] (defScope s_is_sample) := ⟨rfl, rfl, rfl, by decide +kernel, rfl, by decide +kernel, by decide +kernel⟩
def sp_is_sample (K : PySem.W.Frag) : Sp := fun vs H Q _ => ∃ v d, vs = [v] ∧ Dp K H v d ∧ ∀ H', Same H H' → Q (.bl (isSampD d)) H'
theorem sp_is_sample_len {vs H Q E} (h : sp_is_sample K vs H Q E) : vs.length = 1 := by obtain ⟨v, d, rfl, _⟩ := h; rfl
theorem u_is_sample {v : V} {d : PyData} {H : Hp} {Q : VK} {E : XK} (h : Dp K H v d) (k : ∀ H', Same H H' → Q (.bl (isSampD d)) H') : sp_is_sample K [v] H Q E := ⟨v, d, rfl, h, k⟩
abbrev s_need_samples : Stmt := topS 66
abbrev n_need_samples : List Str := ["value", "pair"]
theorem sc_need_samples : FnScope n_need_samples ["value"] (defScope s_need_samples) := ⟨rfl, rfl, rfl, by decide +kernel, rfl, by decide +kernel, by decide +kernel⟩
def sp_need_samples (K : PySem.W.Frag) : Sp := fun vs H Q _ => ∃ v zs, vs = [v] ∧ SampAt K H v zs ∧ (1 ≤ zs.length ∧ zs.length ≤ 20) ∧ (∀ z ∈ zs, PtOk z) ∧ ∀ H', Same H H' → Q .non H'
theorem sp_need_samples_len {vs H Q E} (h : sp_need_samples K vs H Q E) : vs.length = 1 := by obtain ⟨v, d, rfl, _⟩ := h; rfl
theorem u_need_samples {v : V} {zs : List Pt} {H : Hp} {Q : VK} {E : XK} (h : SampAt K H v zs) (o : 1 ≤ zs.length ∧ zs.length ≤ 20) (c : ∀ z ∈ zs, PtOk z) (k : ∀ H', Same H H' → Q .non H') : sp_need_samples K [v] H Q E := ⟨v, zs, rfl, h, o, c, k⟩
abbrev s_need_position : Stmt := topS 67
abbrev n_need_position : List Str := ["pipeline", "value"]
theorem sc_need_position : FnScope n_need_position ["pipeline", "value"] (defScope s_need_position) := ⟨rfl, rfl, rfl, by decide +kernel, rfl, by decide +kernel, by decide +kernel⟩
def sp_need_position (K : PySem.W.Frag) : Sp := fun vs H Q _ => ∃ (a : Addr) (p : Pipe) (i : Int), vs = [.ref a, .int i] ∧ PipeAt K H (.ref a) p ∧ (0 ≤ i ∧ i < p.length) ∧ ∀ H', Same H H' → Q .non H'
theorem sp_need_position_len {vs H Q E} (h : sp_need_position K vs H Q E) : vs.length = 2 := by obtain ⟨v, w, p, rfl, _⟩ := h; rfl
theorem u_need_position {a : Addr} {p : Pipe} {i : Int} {H : Hp} {Q : VK} {E : XK} (h : PipeAt K H (.ref a) p) (o : 0 ≤ i ∧ i < p.length) (k : ∀ H', Same H H' → Q .non H') : sp_need_position K [.ref a, .int i] H Q E := ⟨a, p, i, rfl, h, o, k⟩
abbrev s_replaced : Stmt := topS 68
abbrev n_replaced : List Str := ["pipeline", "position", "step"]
theorem sc_replaced : FnScope n_replaced ["pipeline", "position", "step"] (defScope s_replaced) := ⟨rfl, rfl, rfl, by decide +kernel, rfl, by decide +kernel, by decide +kernel⟩
def sp_replaced (K : PySem.W.Frag) : Sp := fun vs H Q _ => ∃ (a : Addr) (p : Pipe) (n : Nat) (u : V) (s : Step), vs = [.ref a, .int (n : Int), u] ∧ PipeAt K H (.ref a) p ∧ StepAt K H u s ∧ p.length ≤ 6 ∧ ∀ c H', Same H H' → PipeAt K H' (.ref c) (repP p s n) → Q (.ref c) H'
theorem sp_replaced_len {vs H Q E} (h : sp_replaced K vs H Q E) : vs.length = 3 := by obtain ⟨v, w, p, u, s, rfl, _⟩ := h; rfl
theorem u_replaced {a : Addr} {p : Pipe} {n : Nat} {u : V} {s : Step} {H : Hp} {Q : VK} {E : XK} (h : PipeAt K H (.ref a) p) (h' : StepAt K H u s) (o : p.length ≤ 6) (k : ∀ c H', Same H H' → PipeAt K H' (.ref c) (repP p s n) → Q (.ref c) H') : sp_replaced K [.ref a, .int (n : Int), u] H Q E := ⟨a, p, n, u, s, rfl, h, h', o, k⟩
theorem u_replaced0 {a : Addr} {p : Pipe} {u : V} {s : Step} {H : Hp} {Q : VK} {E : XK} (h : PipeAt K H (.ref a) p) (h' : StepAt K H u s) (o : p.length ≤ 6) (k : ∀ c H', Same H H' → PipeAt K H' (.ref c) (repP p s 0) → Q (.ref c) H') : sp_replaced K [.ref a, .int 0, u] H Q E := u_replaced (n := 0) h h' o k
abbrev s_offset_bounds : Stmt := topS 69
abbrev n_offset_bounds : List Str := ["pipeline", "position", "k", "m", "samples", "low", "high", "x", "y", "inner", "interval"]
theorem sc_offset_bounds : FnScope n_offset_bounds ["pipeline", "position", "k", "m", "samples"] (defScope s_offset_bounds) := ⟨rfl, rfl, rfl, by decide +kernel, rfl, by decide +kernel, by decide +kernel⟩
def sp_offset_bounds (K : PySem.W.Frag) : Sp := fun vs H Q _ => ∃ (a : Addr) (p : Pipe) (n : Nat) (k m : Int) (w : V) (zs : List Pt), vs = [.ref a, .int (n : Int), .int k, .int m, w] ∧ PipeAt K H (.ref a) p ∧ SampAt K H w zs ∧ p.pos ∧ p.length ≤ 6 ∧ zs.length ≤ 20 ∧ (1 ≤ k ∧ k ≤ 12) ∧ (1 ≤ m ∧ m ≤ 12) ∧ ∀ v H', Same H H' → Dp K H' v (obD (obB (p.take n) (p.drop (n + 1)) k m zs)) → Q v H'
theorem sp_offset_bounds_len {vs H Q E} (h : sp_offset_bounds K vs H Q E) : vs.length = 5 := by obtain ⟨v, w, p, u, s, t, y, rfl, _⟩ := h; rfl
theorem u_offset_bounds {a : Addr} {p : Pipe} {n : Nat} {k m : Int} {w : V} {zs : List Pt} {H : Hp} {Q : VK} {E : XK} (h : PipeAt K H (.ref a) p) (h' : SampAt K H w zs) (o : p.pos) (o1 : p.length ≤ 6) (o2 : zs.length ≤ 20) (o3 : 1 ≤ k ∧ k ≤ 12) (o4 : 1 ≤ m ∧ m ≤ 12) (c : ∀ v H', Same H H' → Dp K H' v (obD (obB (p.take n) (p.drop (n + 1)) k m zs)) → Q v H') : sp_offset_bounds K [.ref a, .int (n : Int), .int k, .int m, w] H Q E := ⟨a, p, n, k, m, w, zs, rfl, h, h', o, o1, o2, o3, o4, c⟩
abbrev s_hidden_steps : Stmt := topS 70
abbrev n_hidden_steps : List Str := ["pipeline", "position", "samples", "found", "k", "m", "bounds"]
theorem sc_hidden_steps : FnScope n_hidden_steps ["pipeline", "position", "samples"] (defScope s_hidden_steps) := ⟨rfl, rfl, rfl, by decide +kernel, rfl, by decide +kernel, by decide +kernel⟩
def sp_hidden_steps (K : PySem.W.Frag) : Sp := fun vs H Q _ => ∃ (a : Addr) (p : Pipe) (n : Nat) (w : V) (zs : List Pt), vs = [.ref a, .int (n : Int), w] ∧ PipeAt K H (.ref a) p ∧ SampAt K H w zs ∧ p.ok ∧ n < p.length ∧ (1 ≤ zs.length ∧ zs.length ≤ 20) ∧ (∀ z ∈ zs, PtOk z) ∧ ∀ q H', Same H H' → H q = none → ∀ xs, H' q = some (.lst xs) → Paired (RowAt K H') xs (hidL p n zs) → Q (.ref q) H'
theorem sp_hidden_steps_len {vs H Q E} (h : sp_hidden_steps K vs H Q E) : vs.length = 3 := by obtain ⟨v, w, p, u, s, rfl, _⟩ := h; rfl
theorem u_hidden_steps {a : Addr} {p : Pipe} {n : Nat} {w : V} {zs : List Pt} {H : Hp} {Q : VK} {E : XK} (h : PipeAt K H (.ref a) p) (h' : SampAt K H w zs) (o : p.ok) (o1 : n < p.length) (o2 : 1 ≤ zs.length ∧ zs.length ≤ 20) (o3 : ∀ z ∈ zs, PtOk z) (c : ∀ q H', Same H H' → H q = none → ∀ xs, H' q = some (.lst xs) → Paired (RowAt K H') xs (hidL p n zs) → Q (.ref q) H') : sp_hidden_steps K [.ref a, .int (n : Int), w] H Q E := ⟨a, p, n, w, zs, rfl, h, h', o, o1, o2, o3, c⟩
abbrev s_need_step : Stmt := topS 71
abbrev n_need_step : List Str := ["pipeline", "position", "value"]
theorem sc_need_step : FnScope n_need_step ["pipeline", "position", "value"] (defScope s_need_step) := ⟨rfl, rfl, rfl, by decide +kernel, rfl, by decide +kernel, by decide +kernel⟩
def sp_need_step (K : PySem.W.Frag) : Sp := fun vs H Q _ => ∃ (a : Addr) (p : Pipe) (n : Nat) (u : V) (s : Step), vs = [.ref a, .int (n : Int), u] ∧ PipeAt K H (.ref a) p ∧ StepAt K H u s ∧ p.length ≤ 6 ∧ s.ok ∧ (repP p s n).ok ∧ ∀ H', Same H H' → Q .non H'
theorem sp_need_step_len {vs H Q E} (h : sp_need_step K vs H Q E) : vs.length = 3 := by obtain ⟨v, w, p, u, s, rfl, _⟩ := h; rfl
theorem u_need_step {a : Addr} {p : Pipe} {n : Nat} {u : V} {s : Step} {H : Hp} {Q : VK} {E : XK} (h : PipeAt K H (.ref a) p) (h' : StepAt K H u s) (o : p.length ≤ 6) (o' : s.ok) (o'' : (repP p s n).ok) (k : ∀ H', Same H H' → Q .non H') : sp_need_step K [.ref a, .int (n : Int), u] H Q E := ⟨a, p, n, u, s, rfl, h, h', o, o', o'', k⟩
abbrev s_telling_argument : Stmt := topS 72
abbrev n_telling_argument : List Str := ["pipeline", "position", "one", "other"]
theorem sc_telling_argument : FnScope n_telling_argument ["pipeline", "position", "one", "other"] (defScope s_telling_argument) := ⟨rfl, rfl, rfl, by decide +kernel, rfl, by decide +kernel, by decide +kernel⟩
def sp_telling_argument (K : PySem.W.Frag) : Sp := fun vs H Q _ => ∃ (a : Addr) (p : Pipe) (n : Nat) (u w : V) (s t : Step), vs = [.ref a, .int (n : Int), u, w] ∧ PipeAt K H (.ref a) p ∧ StepAt K H u s ∧ StepAt K H w t ∧ p.ok ∧ n < p.length ∧ s.ok ∧ t.ok ∧ (repP p s n).ok ∧ (repP p t n).ok ∧ ∀ o H', Same H H' → DifO (repP p s n) (repP p t n) o → Q (optV o) H'
theorem sp_telling_argument_len {vs H Q E} (h : sp_telling_argument K vs H Q E) : vs.length = 4 := by obtain ⟨v, w, p, u, s, t, y, rfl, _⟩ := h; rfl
theorem u_telling_argument {a : Addr} {p : Pipe} {n : Nat} {u w : V} {s t : Step} {H : Hp} {Q : VK} {E : XK} (h : PipeAt K H (.ref a) p) (h' : StepAt K H u s) (h'' : StepAt K H w t) (o : p.ok) (c : n < p.length) (so : s.ok) (to : t.ok) (o' : (repP p s n).ok) (o'' : (repP p t n).ok) (k : ∀ o H', Same H H' → DifO (repP p s n) (repP p t n) o → Q (optV o) H') : sp_telling_argument K [.ref a, .int (n : Int), u, w] H Q E := ⟨a, p, n, u, w, s, t, rfl, h, h', h'', o, c, so, to, o', o'', k⟩
abbrev s_fits : Stmt := topS 73
abbrev n_fits : List Str := ["pipeline", "samples", "x", "y"]
theorem sc_fits : FnScope n_fits ["pipeline", "samples"] (defScope s_fits) := ⟨rfl, rfl, rfl, by decide +kernel, rfl, by decide +kernel, by decide +kernel⟩
def sp_fits (K : PySem.W.Frag) : Sp := fun vs H Q _ => ∃ v p w zs, vs = [v, w] ∧ PipeAt K H v p ∧ SampAt K H w zs ∧ p.pos ∧ zs.length ≤ 1000000 ∧ ∀ H', Same H H' → Q (.bl (fitsB p zs)) H'
theorem sp_fits_len {vs H Q E} (h : sp_fits K vs H Q E) : vs.length = 2 := by obtain ⟨v, d, w, zs, rfl, _⟩ := h; rfl
theorem u_fits {v w : V} {p : Pipe} {zs : List Pt} {H : Hp} {Q : VK} {E : XK} (h : PipeAt K H v p) (h' : SampAt K H w zs) (o : p.pos) (c : zs.length ≤ 1000000) (k : ∀ H', Same H H' → Q (.bl (fitsB p zs)) H') : sp_fits K [v, w] H Q E := ⟨v, p, w, zs, rfl, h, h', o, c, k⟩
abbrev s_insert_positions : Stmt := topS 74
abbrev n_insert_positions : List Str := ["pipeline", "step", "samples", "found", "position", "longer"]
theorem sc_insert_positions : FnScope n_insert_positions ["pipeline", "step", "samples"] (defScope s_insert_positions) := ⟨rfl, rfl, rfl, by decide +kernel, rfl, by decide +kernel, by decide +kernel⟩
def sp_insert_positions (K : PySem.W.Frag) : Sp := fun vs H Q _ => ∃ v p u s w zs, vs = [v, u, w] ∧ PipeAt K H v p ∧ StepAt K H u s ∧ SampAt K H w zs ∧ p.ok ∧ s.ok ∧ (1 ≤ zs.length ∧ zs.length ≤ 20) ∧ (∀ z ∈ zs, PtOk z) ∧ ∀ q H', Same H H' → H q = none → H' q = some (.lst ((insL p s zs (p.length + 1)).map V.int)) → Q (.ref q) H'
theorem sp_insert_positions_len {vs H Q E} (h : sp_insert_positions K vs H Q E) : vs.length = 3 := by obtain ⟨v, p, u, s, w, zs, rfl, _⟩ := h; rfl
theorem u_insert_positions {v u w : V} {p : Pipe} {s : Step} {zs : List Pt} {H : Hp} {Q : VK} {E : XK} (h : PipeAt K H v p) (h1 : StepAt K H u s) (h' : SampAt K H w zs) (o : p.ok) (o' : s.ok) (c : 1 ≤ zs.length ∧ zs.length ≤ 20) (c' : ∀ z ∈ zs, PtOk z) (k : ∀ q H', Same H H' → H q = none → H' q = some (.lst ((insL p s zs (p.length + 1)).map V.int)) → Q (.ref q) H') : sp_insert_positions K [v, u, w] H Q E := ⟨v, p, u, s, w, zs, rfl, h, h1, h', o, o', c, c', k⟩
abbrev s_need_level : Stmt := topS 76
abbrev n_need_level : List Str := ["pipeline", "length", "rise"]
theorem sc_need_level : FnScope n_need_level ["pipeline"] (defScope s_need_level) := ⟨rfl, rfl, rfl, by decide +kernel, rfl, by decide +kernel, by decide +kernel⟩
def sp_need_level (K : PySem.W.Frag) : Sp := fun vs H Q _ => ∃ v p P, vs = [v] ∧ PipeAt K H v p ∧ p.pos ∧ p.prod ≤ 100000 ∧ Least p.val P P ∧ ∀ H', Same H H' → Q (.int P) H'
theorem sp_need_level_len {vs H Q E} (h : sp_need_level K vs H Q E) : vs.length = 1 := by obtain ⟨v, p, P, rfl, _⟩ := h; rfl
theorem u_need_level {v : V} {p : Pipe} {P P' : Int} {H : Hp} {Q : VK} {E : XK} (h : PipeAt K H v p) (o : p.pos) (b : p.prod ≤ 100000) (l : Least p.val P P') (e : P = P') (k : ∀ H', Same H H' → Q (.int P) H') : sp_need_level K [v] H Q E := ⟨v, p, P, rfl, h, o, b, e ▸ l, k⟩
abbrev s_walk : Stmt := topS 77
abbrev n_walk : List Str := ["pipeline", "length", "x", "values", "seen"]
theorem sc_walk : FnScope n_walk ["pipeline", "length", "x"] (defScope s_walk) := ⟨rfl, rfl, rfl, by decide +kernel, rfl, by decide +kernel, by decide +kernel⟩
def sp_walk (K : PySem.W.Frag) : Sp := fun vs H Q _ => ∃ v p L x, vs = [v, .int L, .int x] ∧ PipeAt K H v p ∧ p.pos ∧ (0 < L ∧ L ≤ 100000) ∧ QP p.val L L ∧ ∀ q l μ m H', Same H H' → WalkOf p.val L x μ m → SqT K H' q [.ref l, .int (μ : Nat)] → SqL K H' l (itL p.val x (m + 1)) → Q (.ref q) H'
theorem sp_walk_len {vs H Q E} (h : sp_walk K vs H Q E) : vs.length = 3 := by obtain ⟨v, p, L, x, rfl, _⟩ := h; rfl
theorem u_walk {v : V} {p : Pipe} {L x : Int} {H : Hp} {Q : VK} {E : XK} (h : PipeAt K H v p) (o : p.pos) (b : 0 < L ∧ L ≤ 100000) (hq : QP p.val L L) (k : ∀ q l μ m H', Same H H' → WalkOf p.val L x μ m → SqT K H' q [.ref l, .int (μ : Nat)] → SqL K H' l (itL p.val x (m + 1)) → Q (.ref q) H') : sp_walk K [v, .int L, .int x] H Q E := ⟨v, p, L, x, rfl, h, o, b, hq, k⟩
abbrev s_iterate : Stmt := topS 78
abbrev n_iterate : List Str := ["pipeline", "x", "count", "values", "ahead", "size", "turns", "rest"]
theorem sc_iterate : FnScope n_iterate ["pipeline", "x", "count"] (defScope s_iterate) := ⟨rfl, rfl, rfl, by decide +kernel, rfl, by decide +kernel, by decide +kernel⟩
def sp_iterate (K : PySem.W.Frag) : Sp := fun vs H Q _ => ∃ (v : V) (p : Pipe) (P x n : Int), vs = [v, .int x, .int n] ∧ PipeAt K H v p ∧ p.ok ∧ Least p.val P P ∧ (-1000000000000000000 ≤ x ∧ x ≤ 1000000000000000000) ∧ (0 ≤ n ∧ n ≤ 1000000000000000000) ∧ ∀ H', Same H H' → Q (.int (itN p.val n.toNat x)) H'
theorem sp_iterate_len {vs H Q E} (h : sp_iterate K vs H Q E) : vs.length = 3 := by obtain ⟨v, p, P, x, n, rfl, _⟩ := h; rfl
theorem u_iterate {v : V} {p : Pipe} {P x n : Int} {H : Hp} {Q : VK} {E : XK} (h : PipeAt K H v p) (o : p.ok) (l : Least p.val P P) (b : -1000000000000000000 ≤ x ∧ x ≤ 1000000000000000000) (c : 0 ≤ n ∧ n ≤ 1000000000000000000) (k : ∀ H', Same H H' → Q (.int (itN p.val n.toNat x)) H') : sp_iterate K [v, .int x, .int n] H Q E := ⟨v, p, P, x, n, rfl, h, o, l, b, c, k⟩
abbrev s_mean_shift : Stmt := topS 79
abbrev n_mean_shift : List Str := ["pipeline", "values", "ahead"]
theorem sc_mean_shift : FnScope n_mean_shift ["pipeline"] (defScope s_mean_shift) := ⟨rfl, rfl, rfl, by decide +kernel, rfl, by decide +kernel, by decide +kernel⟩
def sp_mean_shift (K : PySem.W.Frag) : Sp := fun vs H Q _ => ∃ v p P, vs = [v] ∧ PipeAt K H v p ∧ p.ok ∧ Least p.val P P ∧ ∀ a μ m H', Same H H' → WalkOf p.val P 0 μ m → SqT K H' a [.int (frTop (itN p.val m 0 - itN p.val μ 0) ((m : Nat) - (μ : Nat) : Int)), .int (frBot (itN p.val m 0 - itN p.val μ 0) ((m : Nat) - (μ : Nat) : Int))] → Q (.ref a) H'
theorem sp_mean_shift_len {vs H Q E} (h : sp_mean_shift K vs H Q E) : vs.length = 1 := by obtain ⟨v, p, P, rfl, _⟩ := h; rfl
theorem u_mean_shift {v : V} {p : Pipe} {P : Int} {H : Hp} {Q : VK} {E : XK} (h : PipeAt K H v p) (o : p.ok) (l : Least p.val P P) (k : ∀ a μ m H', Same H H' → WalkOf p.val P 0 μ m → SqT K H' a [.int (frTop (itN p.val m 0 - itN p.val μ 0) ((m : Nat) - (μ : Nat) : Int)), .int (frBot (itN p.val m 0 - itN p.val μ 0) ((m : Nat) - (μ : Nat) : Int))] → Q (.ref a) H') : sp_mean_shift K [v] H Q E := ⟨v, p, P, rfl, h, o, l, k⟩
abbrev s_cycle : Stmt := topS 80
abbrev n_cycle : List Str := ["pipeline", "x", "values", "ahead"]
theorem sc_cycle : FnScope n_cycle ["pipeline", "x"] (defScope s_cycle) := ⟨rfl, rfl, rfl, by decide +kernel, rfl, by decide +kernel, by decide +kernel⟩
def sp_cycle (K : PySem.W.Frag) : Sp := fun vs H Q _ => ∃ v p P x, vs = [v, .int x] ∧ PipeAt K H v p ∧ p.ok ∧ Least p.val P P ∧ (-1000000000000000000 ≤ x ∧ x ≤ 1000000000000000000) ∧ ∀ a μ m H', Same H H' → WalkOf p.val P x μ m → SqT K H' a [.int (μ : Nat), .int ((m : Nat) - (μ : Nat) : Int)] → Q (.ref a) H'
theorem sp_cycle_len {vs H Q E} (h : sp_cycle K vs H Q E) : vs.length = 2 := by obtain ⟨v, p, P, x, rfl, _⟩ := h; rfl
theorem u_cycle {v : V} {p : Pipe} {P x : Int} {H : Hp} {Q : VK} {E : XK} (h : PipeAt K H v p) (o : p.ok) (l : Least p.val P P) (b : -1000000000000000000 ≤ x ∧ x ≤ 1000000000000000000) (k : ∀ a μ m H', Same H H' → WalkOf p.val P x μ m → SqT K H' a [.int (μ : Nat), .int ((m : Nat) - (μ : Nat) : Int)] → Q (.ref a) H') : sp_cycle K [v, .int x] H Q E := ⟨v, p, P, x, rfl, h, o, l, b, k⟩
abbrev s_need_divisor : Stmt := topS 83
abbrev n_need_divisor : List Str := ["value", "most"]
theorem sc_need_divisor : FnScope n_need_divisor ["value", "most"] (defScope s_need_divisor) := ⟨rfl, rfl, rfl, by decide +kernel, rfl, by decide +kernel, by decide +kernel⟩
def sp_need_divisor (K : PySem.W.Frag) : Sp := fun vs H Q _ => ∃ m b : Int, vs = [.int m, .int b] ∧ (1 ≤ m ∧ m ≤ b) ∧ ∀ H', Same H H' → Q .non H'
theorem sp_need_divisor_len {vs H Q E} (h : sp_need_divisor K vs H Q E) : vs.length = 2 := by obtain ⟨m, b, rfl, _⟩ := h; rfl
theorem u_need_divisor {m b : Int} {H : Hp} {Q : VK} {E : XK} (h : 1 ≤ m ∧ m ≤ b) (k : ∀ H', Same H H' → Q .non H') : sp_need_divisor K [.int m, .int b] H Q E := ⟨m, b, rfl, h, k⟩
abbrev s_need_mode : Stmt := topS 84
abbrev n_need_mode : List Str := ["value"]
theorem sc_need_mode : FnScope n_need_mode ["value"] (defScope s_need_mode) := ⟨rfl, rfl, rfl, by decide +kernel, rfl, by decide +kernel, by decide +kernel⟩
def sp_need_mode (K : PySem.W.Frag) : Sp := fun vs H Q _ => ∃ md : Mode, vs = [.str md.str] ∧ ∀ H', Same H H' → Q .non H'
theorem sp_need_mode_len {vs H Q E} (h : sp_need_mode K vs H Q E) : vs.length = 1 := by obtain ⟨md, rfl, _⟩ := h; rfl
theorem u_need_mode {md : Mode} {H : Hp} {Q : VK} {E : XK} (k : ∀ H', Same H H' → Q .non H') : sp_need_mode K [.str md.str] H Q E := ⟨md, rfl, k⟩
abbrev s_mode_step : Stmt := topS 85
abbrev n_mode_step : List Str := ["m", "mode", "offsets"]
theorem sc_mode_step : FnScope n_mode_step ["m", "mode"] (defScope s_mode_step) := ⟨rfl, rfl, rfl, by decide +kernel, rfl, by decide +kernel, by decide +kernel⟩
def sp_mode_step (K : PySem.W.Frag) : Sp := fun vs H Q _ => ∃ (m : Int) (md : Mode), vs = [.int m, .str md.str] ∧ (1 ≤ m ∧ m ≤ 144) ∧ ∀ c H', Same H H' → StepAt K H' (.ref c) (md.step m) → Q (.ref c) H'
theorem sp_mode_step_len {vs H Q E} (h : sp_mode_step K vs H Q E) : vs.length = 2 := by obtain ⟨m, md, rfl, _⟩ := h; rfl
theorem u_mode_step {m : Int} {md : Mode} {H : Hp} {Q : VK} {E : XK} (h : 1 ≤ m ∧ m ≤ 144) (k : ∀ c H', Same H H' → StepAt K H' (.ref c) (md.step m) → Q (.ref c) H') : sp_mode_step K [.int m, .str md.str] H Q E := ⟨m, md, rfl, h, k⟩
abbrev s_double_rounding : Stmt := topS 86
abbrev n_double_rounding : List Str := ["m1", "m2", "mode"]
theorem sc_double_rounding : FnScope n_double_rounding ["m1", "m2", "mode"] (defScope s_double_rounding) := ⟨rfl, rfl, rfl, by decide +kernel, rfl, by decide +kernel, by decide +kernel⟩
def sp_double_rounding (K : PySem.W.Frag) : Sp := fun vs H Q _ => ∃ (m n : Int) (md : Mode), vs = [.int m, .int n, .str md.str] ∧ (1 ≤ m ∧ m ≤ 12) ∧ (1 ≤ n ∧ n ≤ 12) ∧ m * n ≤ 120 ∧ ∀ o H', Same H H' → DifO [md.step m, md.step n] [md.step (m * n)] o → Q (optV o) H'
theorem sp_double_rounding_len {vs H Q E} (h : sp_double_rounding K vs H Q E) : vs.length = 3 := by obtain ⟨m, n, md, rfl, _⟩ := h; rfl
theorem u_double_rounding {m n : Int} {md : Mode} {H : Hp} {Q : VK} {E : XK} (h : 1 ≤ m ∧ m ≤ 12) (h' : 1 ≤ n ∧ n ≤ 12) (b : m * n ≤ 120) (k : ∀ o H', Same H H' → DifO [md.step m, md.step n] [md.step (m * n)] o → Q (optV o) H') : sp_double_rounding K [.int m, .int n, .str md.str] H Q E := ⟨m, n, md, rfl, h, h', b, k⟩
abbrev s_law_cell_at : Stmt := topS 88
abbrev n_law_cell_at : List Str := ["script", "k"]
theorem sc_law_cell_at : FnScope n_law_cell_at ["script", "k"] (defScope s_law_cell_at) := ⟨rfl, rfl, rfl, by decide +kernel, rfl, by decide +kernel, by decide +kernel⟩
def sp_law_cell_at (K : PySem.W.Frag) : Sp := fun vs H Q _ => ∃ (a : Addr) (ns : List Int) (k : Int), vs = [.ref a, .int k] ∧ SqL K H a (ns.map V.int) ∧ 0 ≤ k ∧ ∀ r H', Same H H' → Q (.int r) H'
theorem sp_law_cell_at_len {vs H Q E} (h : sp_law_cell_at K vs H Q E) : vs.length = 2 := by obtain ⟨a, ns, k, rfl, _⟩ := h; rfl
theorem u_law_cell_at {a : Addr} {ns : List Int} {x : Int} {H : Hp} {Q : VK} {E : XK} (h : SqL K H a (ns.map V.int)) (b : 0 ≤ x) (k : ∀ r H', Same H H' → Q (.int r) H') : sp_law_cell_at K [.ref a, .int x] H Q E := ⟨a, ns, x, rfl, h, b, k⟩
abbrev s_law_draws : Stmt := topS 89
abbrev n_law_draws : List Str := ["cell", "many", "size", "found", "rest", "stirred", "k"]
theorem sc_law_draws : FnScope n_law_draws ["cell", "many", "size"] (defScope s_law_draws) := ⟨rfl, rfl, rfl, by decide +kernel, rfl, by decide +kernel, by decide +kernel⟩
def sp_law_draws (K : PySem.W.Frag) : Sp := fun vs H Q _ => ∃ (c : Int), vs = [.int c, .int 400, .int 1000] ∧ ∀ q (ds : List Int) H', Same H H' → H q = none → H' q = some (.lst (ds.map V.int)) → ds.length = 400 → (∀ z ∈ ds, 0 ≤ z) → Q (.ref q) H'
theorem sp_law_draws_len {vs H Q E} (h : sp_law_draws K vs H Q E) : vs.length = 3 := by obtain ⟨a, rfl, _⟩ := h; rfl
theorem u_law_draws {c : Int} {H : Hp} {Q : VK} {E : XK} (k : ∀ q (ds : List Int) H', Same H H' → H q = none → H' q = some (.lst (ds.map V.int)) → ds.length = 400 → (∀ z ∈ ds, 0 ≤ z) → Q (.ref q) H') : sp_law_draws K [.int c, .int 400, .int 1000] H Q E := ⟨c, rfl, k⟩
abbrev s_law_bag : Stmt := topS 90
abbrev n_law_bag : List Str := ["script", "k"]
theorem sc_law_bag : FnScope n_law_bag ["script", "k"] (defScope s_law_bag) := ⟨rfl, rfl, rfl, by decide +kernel, rfl, by decide +kernel, by decide +kernel⟩
def sp_law_bag (K : PySem.W.Frag) : Sp := fun vs H Q _ => ∃ (a : Addr) (ns : List Int) (k : Int), vs = [.ref a, .int k] ∧ SqL K H a (ns.map V.int) ∧ 0 ≤ k ∧ ∀ b d H', Same H H' → H b = none → H d = none → BagAt H' b d → Q (.ref b) H'
theorem sp_law_bag_len {vs H Q E} (h : sp_law_bag K vs H Q E) : vs.length = 2 := by obtain ⟨a, ns, k, rfl, _⟩ := h; rfl
theorem u_law_bag {a : Addr} {ns : List Int} {x : Int} {H : Hp} {Q : VK} {E : XK} (h : SqL K H a (ns.map V.int)) (b : 0 ≤ x) (k : ∀ b d H', Same H H' → H b = none → H d = none → BagAt H' b d → Q (.ref b) H') : sp_law_bag K [.ref a, .int x] H Q E := ⟨a, ns, x, rfl, h, b, k⟩
abbrev s_law_bags : Stmt := topS 91
abbrev n_law_bags : List Str := ["script", "limit", "k"]
theorem sc_law_bags : FnScope n_law_bags ["script", "limit"] (defScope s_law_bags) := ⟨rfl, rfl, rfl, by decide +kernel, rfl, by decide +kernel, by decide +kernel⟩
def sp_law_bags (K : PySem.W.Frag) : Sp := fun vs H Q _ => ∃ (a : Addr) (ns : List Int) (l : Int), vs = [.ref a, .int l] ∧ SqL K H a (ns.map V.int) ∧ l ≤ 10 ∧ ∀ q bs H', Same H H' → H q = none → BagsAt H' q bs → Q (.ref q) H'
theorem sp_law_bags_len {vs H Q E} (h : sp_law_bags K vs H Q E) : vs.length = 2 := by obtain ⟨a, ns, k, rfl, _⟩ := h; rfl
theorem u_law_bags {a : Addr} {ns : List Int} {x : Int} {H : Hp} {Q : VK} {E : XK} (h : SqL K H a (ns.map V.int)) (b : x ≤ 10) (k : ∀ q bs H', Same H H' → H q = none → BagsAt H' q bs → Q (.ref q) H') : sp_law_bags K [.ref a, .int x] H Q E := ⟨a, ns, x, rfl, h, b, k⟩
abbrev s_law_take : Stmt := topS 92
abbrev n_law_take : List Str := ["bag", "many"]
theorem sc_law_take : FnScope n_law_take ["bag", "many"] (defScope s_law_take) := ⟨rfl, rfl, rfl, by decide +kernel, rfl, by decide +kernel, by decide +kernel⟩
def sp_law_take (K : PySem.W.Frag) : Sp := fun vs H Q _ => ∃ (b d : Addr) (m : Int), vs = [.ref b, .int m] ∧ BagAt H b d ∧ 0 < m ∧ ∀ r H', Bs K b d H H' → 0 ≤ r → r < m → Q (.int r) H'
theorem sp_law_take_len {vs H Q E} (h : sp_law_take K vs H Q E) : vs.length = 2 := by obtain ⟨a, d, m, rfl, _⟩ := h; rfl
theorem u_law_take {b d : Addr} {m : Int} {H : Hp} {Q : VK} {E : XK} (h : BagAt H b d) (o : 0 < m) (k : ∀ r H', Bs K b d H H' → 0 ≤ r → r < m → Q (.int r) H') : sp_law_take K [.ref b, .int m] H Q E := ⟨b, d, m, rfl, h, o, k⟩
abbrev s_law_far_draw : Stmt := topS 93
abbrev n_law_far_draw : List Str := ["bag", "many", "found", "much"]
theorem sc_law_far_draw : FnScope n_law_far_draw ["bag", "many"] (defScope s_law_far_draw) := ⟨rfl, rfl, rfl, by decide +kernel, rfl, by decide +kernel, by decide +kernel⟩
def sp_law_far_draw (K : PySem.W.Frag) : Sp := fun vs H Q _ => ∃ (b d : Addr) (m : Int), vs = [.ref b, .int m] ∧ BagAt H b d ∧ 0 < m ∧ ∀ r H', Bs K b d H H' → 0 ≤ r → r < m → Q (.int r) H'
theorem sp_law_far_draw_len {vs H Q E} (h : sp_law_far_draw K vs H Q E) : vs.length = 2 := by obtain ⟨a, d, m, rfl, _⟩ := h; rfl
theorem u_law_far_draw {b d : Addr} {m : Int} {H : Hp} {Q : VK} {E : XK} (h : BagAt H b d) (o : 0 < m) (k : ∀ r H', Bs K b d H H' → 0 ≤ r → r < m → Q (.int r) H') : sp_law_far_draw K [.ref b, .int m] H Q E := ⟨b, d, m, rfl, h, o, k⟩
abbrev s_law_conversion : Stmt := topS 94
abbrev n_law_conversion : List Str := ["x", "there", "back"]
theorem sc_law_conversion : FnScope n_law_conversion ["x"] (defScope s_law_conversion) := ⟨rfl, rfl, rfl, by decide +kernel, rfl, by decide +kernel, by decide +kernel⟩
def sp_law_conversion (K : PySem.W.Frag) : Sp := fun vs H Q _ => ∃ x : Int, vs = [.int x] ∧ (-5000000000000000 ≤ x ∧ x ≤ 5000000000000000) ∧ ∀ H', Same H H' → Q (.bl true) H'
theorem sp_law_conversion_len {vs H Q E} (h : sp_law_conversion K vs H Q E) : vs.length = 1 := by obtain ⟨x, rfl, _⟩ := h; rfl
theorem u_law_conversion {x : Int} {H : Hp} {Q : VK} {E : XK} (h : -5000000000000000 ≤ x ∧ x ≤ 5000000000000000) (k : ∀ H', Same H H' → Q (.bl true) H') : sp_law_conversion K [.int x] H Q E := ⟨x, rfl, h, k⟩
abbrev s_law_halving : Stmt := topS 95
abbrev n_law_halving : List Str := ["x", "down", "even", "upward"]
theorem sc_law_halving : FnScope n_law_halving ["x"] (defScope s_law_halving) := ⟨rfl, rfl, rfl, by decide +kernel, rfl, by decide +kernel, by decide +kernel⟩
def sp_law_halving (K : PySem.W.Frag) : Sp := fun vs H Q _ => ∃ x : Int, vs = [.int x] ∧ (-5000000000000000 ≤ x ∧ x ≤ 5000000000000000) ∧ ∀ H', Same H H' → Q (.bl true) H'
theorem sp_law_halving_len {vs H Q E} (h : sp_law_halving K vs H Q E) : vs.length = 1 := by obtain ⟨x, rfl, _⟩ := h; rfl
theorem u_law_halving {x : Int} {H : Hp} {Q : VK} {E : XK} (h : -5000000000000000 ≤ x ∧ x ≤ 5000000000000000) (k : ∀ H', Same H H' → Q (.bl true) H') : sp_law_halving K [.int x] H Q E := ⟨x, rfl, h, k⟩
abbrev s_law_level_right : Stmt := topS 96
abbrev n_law_level_right : List Str := ["turn", "step", "climb"]
theorem sc_law_level_right : FnScope n_law_level_right [] (defScope s_law_level_right) := ⟨rfl, rfl, rfl, by decide +kernel, rfl, by decide +kernel, by decide +kernel⟩
def sp_law_level_right (K : PySem.W.Frag) : Sp := fun vs H Q _ => vs = [] ∧ ∀ H', Same H H' → Q (.bl true) H'
theorem sp_law_level_right_len {vs H Q E} (h : sp_law_level_right K vs H Q E) : vs.length = 0 := by obtain ⟨rfl, _⟩ := h; rfl
theorem u_law_level_right {H : Hp} {Q : VK} {E : XK} (kk : ∀ H', Same H H' → Q (.bl true) H') : sp_law_level_right K [] H Q E := ⟨rfl, kk⟩
abbrev s_law : Stmt := topS 97
abbrev n_law : List Str := ["script", "bag", "x"]
theorem sc_law : FnScope n_law ["script"] (defScope s_law) := ⟨rfl, rfl, rfl, by decide +kernel, rfl, by decide +kernel, by decide +kernel⟩
def sp_law (K : PySem.W.Frag) : Sp := fun vs H Q _ => ∃ (a : Addr) (ns : List Int), vs = [.ref a] ∧ SqL K H a (ns.map V.int) ∧ ∀ H', Q (.bl true) H'
theorem sp_law_len {vs H Q E} (h : sp_law K vs H Q E) : vs.length = 1 := by obtain ⟨a, ns, rfl, _⟩ := h; rfl
end
set_option hygiene false
local macro_rules | `(tactic| purse 30 => fail) => `(tactic| (first | ((with_reducible refine' r_var ?rdA ?_); (case rdA => rfl)) | ((with_reducible refine' r_c ?_)) | ((with_reducible refine' r_op ?_)) | ((with_reducible refine' r_i0 ?_)) | ((with_reducible refine' r_test ?_)) | ((with_reducible refine' r_exb ?_)) | ((with_reducible refine' r_cons ?_)) | ((with_reducible refine' r_nil ?_)) | ((with_reducible refine' r_can ?_))))
local macro_rules | `(tactic| purse 31 => fail) => `(tactic| (first | ((with_reducible refine' r_can0 ?_)) | ((with_reducible refine' r_cb ?_)) | ((with_reducible refine' r_un ?_)) | ((with_reducible refine' r_u ?_)) | ((with_reducible refine' s_seq ?_)) | ((with_reducible refine' s_next ?_)) | ((with_reducible refine' s_asg ?_)) | ((with_reducible refine' s_name ?_)) | ((with_reducible refine' s_par ?_))))
local macro_rules | `(tactic| purse 32 => fail) => `(tactic| (first | ((with_reducible refine' s_par2 ?_)) | ((with_reducible refine' s_drop ?_)) | ((with_reducible refine' s_ret ?_)) | ((with_reducible refine' s_retN ?_)) | ((with_reducible refine' s_if ?_)) | ((with_reducible refine' r_and ?_)) | ((with_reducible refine' r_or ?_)) | ((with_reducible refine' r_not ?_)) | ((with_reducible refine' r_if ?_))))
local macro_rules | `(tactic| purse 33 => fail) => `(tactic| (first | ((with_reducible refine' r_andV ?_)) | ((with_reducible refine' r_orV ?_)) | ((with_reducible refine' r_notV ?_)) | ((with_reducible refine' r_b ?_)) | ((with_reducible refine' r_chain ?_)) | ((with_reducible refine' r_mul ?rdA ?_); (case rdA => first | (left; constructor <;> omega) | (right; constructor <;> omega) | exact cmul_b)) | ((with_reducible refine' r_div ?rdA ?_); (case rdA => constructor <;> omega)) | ((with_reducible refine' r_mod ?rdA ?_); (case rdA => omega)) | ((with_reducible refine' r_eq ?rdA ?_); (case rdA => rfl))))
local macro_rules | `(tactic| purse 34 => fail) => `(tactic| (first | ((with_reducible refine' r_ne ?rdA ?_); (case rdA => rfl)) | ((with_reducible refine' r_ixRange ?rdA ?rdB ?rdC ?_); (case rdA => (purse 2 => fail)); (case rdB => omega); (case rdC => omega)) | ((with_reducible refine' r_ixT ?rdA ?rdB ?_); (case rdA => (purse 2 => fail)); (case rdB => first | with_reducible exact at0 | with_reducible exact at1 | with_reducible exact at2 | with_reducible exact at3 | rfl)) | ((with_reducible refine' r_ixL ?rdA ?rdB ?_); (case rdA => (purse 2 => fail)); (case rdB => first | with_reducible exact at0 | with_reducible exact at1 | with_reducible exact at2 | with_reducible exact at3 | rfl)) | ((with_reducible refine' r_isiLT ?rdA ?rdB ?_); (case rdA => (purse 2 => fail)); (case rdB => (purse 8 => fail))) | ((with_reducible refine' r_isiLF ?rdA ?rdB ?_); (case rdA => (purse 2 => fail)); (case rdB => (purse 8 => fail))) | ((with_reducible refine' r_isiT ?rdA ?rdB ?_); (case rdA => first | (purse 2 => fail) | constructor); (case rdB => (purse 8 => fail))) | ((with_reducible refine' r_isiF ?rdA ?rdB ?_); (case rdA => first | (purse 2 => fail) | constructor); (case rdB => (purse 8 => fail))) | ((with_reducible refine' r_intb ?_))))
local macro_rules | `(tactic| purse 35 => fail) => `(tactic| (first | ((with_reducible refine' r_inti ?_)) | ((with_reducible refine' r_abs ?_)) | ((with_reducible refine' r_lenL ?rdA ?_); (case rdA => (purse 2 => fail)); (try simp only [List.length_cons, List.length_nil, List.length_map])) | ((with_reducible refine' r_lenT ?rdA ?_); (case rdA => (purse 2 => fail)); (try simp only [List.length_cons, List.length_nil, List.length_map])) | ((with_reducible refine' r_lenP ?rdA ?_); (case rdA => (purse 2 => fail)); (try simp only [List.length_cons, List.length_nil, List.length_map])) | ((with_reducible refine' r_lenSm ?rdA ?_); (case rdA => (purse 2 => fail)); (try simp only [List.length_cons, List.length_nil, List.length_map])) | ((with_reducible refine' r_repr ?_)) | ((with_reducible refine' r_isB ?_)) | ((with_reducible refine' r_lstRg ?_))))
local macro_rules | `(tactic| purse 36 => fail) => `(tactic| (first | ((with_reducible refine' r_rg2 ?rdA ?_); (case rdA => (first | omega | (refine ⟨?_, ?_, ?_, ?_, ?_⟩ <;> omega))); intro pN hN) | ((with_reducible refine' r_slP5 ?rdA ?_); (case rdA => (purse 2 => fail)); intro pc H2 h2 pP2) | ((with_reducible refine' r_cv1 ?rdA ?_); (case rdA => rfl)) | ((with_reducible refine' r_cv2 ?rdA ?_); (case rdA => rfl)) | ((with_reducible refine' r_modN ?rdA ?_); (case rdA => omega)) | ((with_reducible refine' r_divN ?rdA ?_); (case rdA => constructor <;> omega)) | ((with_reducible refine' s_sli ?_)) | ((with_reducible refine' r_notB ?_)) | ((with_reducible refine' r_max2 ?_))))
local macro_rules | `(tactic| purse 37 => fail) => `(tactic| (first | ((with_reducible refine' r_min2 ?_)) | ((with_reducible refine' r_tup ?_)) | ((with_reducible refine' r_lst ?_)) | ((with_reducible refine' r_small (n := 64) ?rdA ?rdB ?_); (case rdA => (first | decide | (simp only [List.length_cons, List.length_nil]; omega))); (case rdB => decide); intro pN hN) | ((with_reducible refine' r_eqNil0 ?rdA ?rdB ?_); (case rdA => (purse 2 => fail)); (case rdB => (purse 2 => fail))) | ((with_reducible refine' r_eqNil1 ?rdA ?rdB ?rdC ?_); (case rdA => (purse 2 => fail)); (case rdB => (purse 2 => fail)); (case rdC => assumption)) | ((with_reducible refine' r_p2 ?_)) | ((with_reducible refine' r_p3 ?_)) | ((with_reducible refine' r_p4 ?_))))
local macro_rules | `(tactic| purse 38 => fail) => `(tactic| (first | ((with_reducible refine' r_p5 ?_)) | ((with_reducible refine' r_p6 ?_)) | ((with_reducible refine' r_p7 ?_)) | ((with_reducible refine' r_p8 ?_)) | ((with_reducible refine' r_p9 ?_)) | ((with_reducible refine' r_p10 ?_)) | ((with_reducible refine' r_p12 ?_)) | ((with_reducible refine' r_p15 ?_)) | ((with_reducible refine' r_p14 ?_))))
local macro_rules | `(tactic| purse 39 => fail) => `(tactic| (first | ((with_reducible refine' r_p16 ?_)) | ((with_reducible refine' r_p17 ?_)) | ((with_reducible refine' r_p18 ?_)) | ((with_reducible refine' s_sub ?_)) | ((with_reducible refine' r_setL ?rdA ?rdB ?_); (case rdA => (purse 3 => fail)); (case rdB => rfl)) | ((with_reducible refine' i_zip ?_)) | ((with_reducible refine' i_z ?rdA ?rdB ?_); (case rdA => (purse 2 => fail)); (case rdB => (purse 2 => fail))) | ((with_reducible refine' i_enum ?_)) | ((with_reducible refine' i_e ?rdA ?_); (case rdA => (purse 2 => fail)))))
local macro_rules | `(tactic| purse 40 => fail) => `(tactic| (first | ((with_reducible refine' r_sl ?_)) | ((with_reducible refine' r_nopart ?_)) | ((with_reducible refine' r_part ?_)) | ((with_reducible refine' r_exi ?_)) | ((with_reducible refine' r_sl1I ?rdA ?_); (case rdA => (purse 2 => fail)); intro pN hN) | ((with_reducible refine' r_slFromI ?rdA ?_); (case rdA => (purse 2 => fail)); intro pN hN) | ((with_reducible refine' r_slToI ?rdA ?_); (case rdA => (purse 2 => fail)); intro pN hN) | ((with_reducible refine' r_slL ?rdA ?_); (case rdA => (purse 2 => fail)); intro pN hN) | ((with_reducible refine' r_catI ?rdA ?rdB ?rdC ?_); (case rdA => (purse 3 => fail)); (case rdB => (purse 3 => fail)); (case rdC => (purse 12 => fail)); intro pN hN)))
local macro_rules | `(tactic| purse 41 => fail) => `(tactic| (first | ((with_reducible refine' r_cat ?rdA ?rdB ?rdC ?_); (case rdA => (purse 3 => fail)); (case rdB => (purse 3 => fail)); (case rdC => (purse 12 => fail)); intro pN hN) | ((with_reducible refine' r_revL ?_)) | ((with_reducible refine' r_sum ?rdA ?_); (case rdA => (purse 2 => fail))) | ((with_reducible refine' r_eqInts ?rdA ?rdB ?_); (case rdA => (purse 2 => fail)); (case rdB => (purse 2 => fail))) | ((with_reducible refine' r_eqNilI ?rdA ?rdB ?_); (case rdA => (purse 2 => fail)); (case rdB => (purse 2 => fail))) | ((with_reducible refine' r_neNilI ?rdA ?rdB ?_); (case rdA => (purse 2 => fail)); (case rdB => (purse 2 => fail))) | ((with_reducible refine' r_eqIntsD ?rdA ?rdB ?_); (case rdA => (purse 2 => fail)); (case rdB => (purse 2 => fail))) | ((with_reducible refine' r_neInts ?rdA ?rdB ?_); (case rdA => (purse 2 => fail)); (case rdB => (purse 2 => fail))) | ((with_reducible refine' r_eqInts ?rdA ?rdB ?_); (case rdA => (purse 2 => fail)); (case rdB => (purse 2 => fail)))))
local macro_rules | `(tactic| purse 42 => fail) => `(tactic| (first | ((with_reducible refine' r_slP1 ?rdA ?_); (case rdA => (purse 2 => fail)); intro pc H2 h2 pP2) | ((with_reducible refine' r_neNilP ?rdA ?rdB ?_); (case rdA => (purse 2 => fail)); (case rdB => (purse 2 => fail))) | ((with_reducible refine' r_eqNilP ?rdA ?rdB ?_); (case rdA => (purse 2 => fail)); (case rdB => (purse 2 => fail))) | ((with_reducible refine' r_slP2 ?rdA ?_); (case rdA => (purse 2 => fail)); intro pc H2 h2 pP2) | ((with_reducible refine' r_slPto ?rdA ?_); (case rdA => (purse 2 => fail)); intro pc H2 h2 pP2) | ((with_reducible refine' r_slPfrom ?rdA ?_); (case rdA => (purse 2 => fail)); intro pc H2 h2 pP2) | ((with_reducible refine' r_slPfrom1 ?rdA ?_); (case rdA => (purse 2 => fail)); intro pc H2 h2 pP2) | ((with_reducible refine' r_catP ?rdA ?rdB ?rdC ?_); (case rdA => (purse 2 => fail)); (case rdB => (purse 2 => fail)); (case rdC => (first | omega | (simp only [List.length_append, List.length_cons, List.length_nil, List.length_take, List.length_drop]; omega))); intro pc H2 h2 pP2) | ((with_reducible refine' r_minX ?rdA ?rdB ?_); (case rdA => (purse 2 => fail)); (case rdB => (first | assumption | omega)); intro mn mnh)))
local macro_rules | `(tactic| purse 43 => fail) => `(tactic| (first | ((with_reducible refine' r_maxX ?rdA ?rdB ?_); (case rdA => (purse 2 => fail)); (case rdB => (first | assumption | omega)); intro mx mxh) | ((with_reducible refine' r_lcount ?rdA ?_); (case rdA => (purse 2 => fail))) | ((with_reducible refine' r_isN ?_)) | ((with_reducible refine' r_slTail ?rdA ?_); (case rdA => (purse 2 => fail)); intro pc H2 h2 sT2) | ((with_reducible refine' r_revT ?_)) | ((with_reducible refine' r_revP ?rdA ?_); (case rdA => (purse 2 => fail)); intro pc H2 h2 pP2) | ((with_reducible refine' s_par3 ?_)) | ((with_reducible refine' s_par33 ?_)) | ((with_reducible refine' r_sumT ?rdA ?_); (case rdA => (purse 2 => fail)))))
local macro_rules | `(tactic| purse 44 => fail) => `(tactic| (first | ((with_reducible refine' r_minT ?rdA ?rdB ?_); (case rdA => (purse 2 => fail)); (case rdB => (first | assumption | omega)); intro mn mnh) | ((with_reducible refine' r_maxT ?rdA ?rdB ?_); (case rdA => (purse 2 => fail)); (case rdB => (first | assumption | omega)); intro mx mxh) | ((with_reducible refine' r_slTfrom ?rdA ?rdB ?_); (case rdA => (purse 2 => fail)); (case rdB => omega); intro pc H2 h2 sT2) | ((with_reducible refine' r_slTto ?rdA ?rdB ?_); (case rdA => (purse 2 => fail)); (case rdB => omega); intro pc H2 h2 sT2) | ((with_reducible refine' r_catTI ?rdA ?rdB ?rdC ?_); (case rdA => (purse 2 => fail)); (case rdB => (purse 2 => fail)); (case rdC => (first | omega | (simp only [List.length_take, List.length_drop]; omega))); intro pc H2 h2 sT2) | ((with_reducible refine' r_eqIntsTD ?rdA ?rdB ?_); (case rdA => (purse 2 => fail)); (case rdB => (purse 2 => fail))) | ((with_reducible refine' r_bm ?_)) | ((with_reducible refine' s_for ?_)) | ((with_reducible refine' r_yes ?_))))
local macro_rules | `(tactic| purse 45 => fail) => `(tactic| (first | ((with_reducible refine' r_tupL ?rdA ?_); (case rdA => (purse 2 => fail)); intro pN hN) | ((with_reducible refine' r_lstL ?rdA ?_); (case rdA => (purse 2 => fail)); intro pN hN) | ((with_reducible refine' r_lstT ?rdA ?_); (case rdA => (purse 2 => fail)); intro pN hN) | ((with_reducible refine' s_lc ?_)) | ((with_reducible refine' i_list ?_)) | ((with_reducible refine' i_tup ?_)) | ((with_reducible refine' i_rng1 ?_)) | ((with_reducible refine' i_rng2 ?_)) | ((with_reducible refine' i_l ?rdA ?_); (case rdA => (purse 2 => fail)))))
local macro_rules | `(tactic| purse 46 => fail) => `(tactic| (first | ((with_reducible refine' i_t ?rdA ?_); (case rdA => (purse 2 => fail))) | ((with_reducible refine' i_r1 ?rdA ?_); (case rdA => first | omega | decide)) | ((with_reducible refine' i_r2 ?rdA ?_); (case rdA => first | omega | decide)) | ((with_reducible refine' r_tyL ?rdA ?_); (case rdA => (purse 3 => fail))) | ((with_reducible refine' r_append ?rdA ?rdB ?_); (case rdA => (purse 3 => fail)); (case rdB => (purse 4 => fail))) | ((with_reducible refine' s_gcons ?_)) | ((with_reducible refine' s_gnil ?_)) | ((with_reducible refine' s_tupT ?rdA ?rdB ?_); (case rdA => (purse 2 => fail)); (case rdB => rfl))))
local macro_rules | `(tactic| purse 29 => fail) => `(tactic| (first | ((with_reducible refine' iteT ?_)) | ((with_reducible refine' iteF ?_)) | ((with_reducible refine' iteNT ?_)) | ((with_reducible refine' iteNF ?_)) | ((with_reducible refine' iteD ?rdA ?_); (case rdA => first | assumption | exact scE1 | exact scE2 | exact scE3 | exact scE4 | exact nonE | exact refE | exact intE | exact blE)) | ((with_reducible refine' iteDF ?rdA ?_); (case rdA => first | assumption | exact scE1 | exact scE2 | exact scE3 | exact scE4 | exact nonE | exact refE | exact intE | exact blE)) | ((with_reducible refine' iteND ?rdA ?_); (case rdA => first | assumption | exact scE1 | exact scE2 | exact scE3 | exact scE4 | exact nonE | exact refE | exact intE | exact blE)) | ((with_reducible refine' iteNDF ?rdA ?_); (case rdA => first | assumption | exact scE1 | exact scE2 | exact scE3 | exact scE4 | exact nonE | exact refE | exact intE | exact blE)) | ((with_reducible refine' dec_vint ?_)) | ((with_reducible refine' dec_vintn ?_)) | ((with_reducible refine' ifb ?_ ?_) <;> intro hc <;> (try (exfalso; first | omega | exact hc (congrArg V.int (by omega))))) | ((with_reducible refine' ifnb ?_ ?_) <;> intro hc <;> (try (exfalso; first | omega | exact hc (congrArg V.int (by omega))))) | ((with_reducible refine' ifB ?_ ?_) <;> intro hc <;> (try (exfalso; first | omega | exact hc (congrArg V.int (by omega))))) | ((with_reducible refine' ifNB ?_ ?_) <;> intro hc <;> (try (exfalso; first | omega | exact hc (congrArg V.int (by omega)))))))
local macro_rules | `(tactic| purse 1 => fail) => `(tactic| (with_reducible (repeat (first | assumption | exact Same.refl _ | refine Same.up ?_ (by assumption) | refine Same.upN ?_ (by assumption) | refine Same.trans ?_ (by assumption)))))
local macro_rules | `(tactic| purse 2 => fail) => `(tactic| (with_reducible (repeat (first | assumption | exact Dp.int _ | exact Dp.str _ | exact Dp.bl _ | exact Dp.non | exact SqT.new | exact SqL.new | exact SqL.of (by assumption) | exact StepAt.newE | exact StepAt.newS | (apply PipeAt.new; (purse 10 => fail)) | exact PtAt.new | (apply SampAt.new; (purse 11 => fail)) | exact Bs.bag (by assumption) | (apply SqT.hs; (case e => assumption)) | (apply SqT.hu; (case n => assumption)) | (apply SqL.hs; (case e => assumption)) | (apply SqL.hu; (case n => assumption)) | (apply StepAt.hs; (case e => assumption)) | (apply StepAt.hu; (case n => assumption)) | (apply PipeAt.hs; (case e => assumption)) | (apply PipeAt.hu; (case n => assumption)) | (apply BagAt.hs; (case e => assumption)) | (apply BagAt.hu; (case n => assumption)) | (apply Dp.hs; (case e => assumption)) | (apply Dp.hu; (case n => assumption)) | (apply PtAt.hs; (case e => assumption)) | (apply PtAt.hu; (case n => assumption)) | (apply SampAt.hs; (case e => assumption)) | (apply SampAt.hu; (case n => assumption)) | (apply RowAt.hs; (case e => assumption)) | (apply RowAt.hu; (case n => assumption)) | (apply SqT.hb; (case e => assumption)) | (apply SqT.hl; (case n => (purse 3 => fail))) | (apply StepAt.hb; (case e => assumption)) | (apply StepAt.hl; (case n => (purse 3 => fail))) | (apply PipeAt.hb; (case e => assumption)) | (apply PipeAt.hl; (case n => (purse 3 => fail))) | (apply PtAt.hb; (case e => assumption)) | (apply PtAt.hl; (case n => (purse 3 => fail))) | (apply SampAt.hb; (case e => assumption)) | (apply SampAt.hl; (case n => (purse 3 => fail))) | (apply RowAt.hb; (case e => assumption)) | (apply RowAt.hl; (case n => (purse 3 => fail))) | (apply SqL.hb; (case e => assumption); (case n => (purse 5 => fail))) | (apply SqL.hn; (case n => (purse 5 => fail))) | (apply BagAt.hn; (case nb => (purse 5 => fail)); (case nd => (purse 5 => fail))))); done))
local macro_rules | `(tactic| purse 3 => fail) => `(tactic| (with_reducible (repeat (first | assumption | exact upd_same | (apply HAt.hs; (case e => assumption)) | (apply HAt.hu; (case n => assumption)) | (apply HAt.hb; (case e => assumption); (case n => (purse 5 => fail))) | (apply HAt.hn; (case n => (purse 5 => fail))))); done))
local macro_rules | `(tactic| purse 4 => fail) => `(tactic| (exact sz_lt (by (try simp only [List.length_map, List.length_append, List.length_cons, List.length_nil, List.length_take, List.length_range, List.length_drop]); omega)))
local macro_rules | `(tactic| purse 5 => fail) => `(tactic| (with_reducible first | assumption | exact Ne.symm (by assumption) | (apply NEb; (case n => assumption); (case h => (purse 9 => fail))) | (apply NEd; (case n => assumption); (case h => (purse 9 => fail))) | (apply NEs; (case n => assumption); (case h => (purse 3 => fail)))))
local macro_rules | `(tactic| purse 6 => fail) => `(tactic| (with_reducible (repeat (first | assumption | exact Bs.refl (by assumption) | (apply Bs.hu; (case n => assumption)) | (apply Bs.hs; (case e => assumption)) | (apply Bs.hb; (case y => assumption)) | (apply Bs.hl; (case n => (purse 7 => fail)); (case hl => (purse 3 => fail)); (case h => assumption)))); done))
local macro_rules | `(tactic| purse 7 => fail) => `(tactic| (with_reducible first | assumption | (apply Bs.free; (case n => assumption); (case x => (purse 6 => fail))) | (apply Same.free; (case h => assumption); (case e => ((purse 1 => fail); done)))))
local macro_rules | `(tactic| purse 8 => fail) => `(tactic| ((try dsimp only [tyD]); with_reducible first | exact kB_NoneType_int | exact kB_bool_int | exact kB_int_int | exact kB_str_int | exact kB_list_int | exact kB_tuple_int | exact kB_NoneType_bool | exact kB_bool_bool | exact kB_int_bool | exact kB_str_bool | exact kB_list_bool | exact kB_tuple_bool | exact kB_NoneType_str | exact kB_bool_str | exact kB_int_str | exact kB_str_str | exact kB_list_str | exact kB_tuple_str | exact kB_NoneType_tuple | exact kB_bool_tuple | exact kB_int_tuple | exact kB_str_tuple | exact kB_list_tuple | exact kB_tuple_tuple | exact kB_NoneType_list | exact kB_bool_list | exact kB_int_list | exact kB_str_list | exact kB_list_list | exact kB_tuple_list))
local macro_rules | `(tactic| purse 9 => fail) => `(tactic| (repeat (first | assumption | exact Bs.bag (by assumption) | (apply BagAt.hs; (case e => assumption)) | (apply BagAt.hu; (case n => assumption)))))
local macro_rules | `(tactic| purse 10 => fail) => `(tactic| (with_reducible (repeat (first | exact pairNil | (apply pairCons; (case h => (purse 2 => fail))))); done))
local macro_rules | `(tactic| purse 11 => fail) => `(tactic| (with_reducible (repeat (first | exact pairNilP | (apply pairConsP; (case h => (purse 2 => fail))))); done))
local macro_rules | `(tactic| purse 12 => fail) => `(tactic| (exact sz_le (by (try simp only [List.length_map, List.length_append, List.length_cons, List.length_nil, List.length_take, List.length_range, List.length_drop]); omega)))
local macro_rules | `(tactic| purse 13 => fail) => `(tactic| (with_reducible first | (purse 2 => fail) | (apply dpInts; (purse 2 => fail)) | (apply Dp.mkI; (purse 2 => fail)) | (apply Dp.mkT; (case h => (purse 2 => fail)); (case r => (purse 14 => fail))) | (apply Dp.mkL; (case h => (purse 2 => fail)); (case r => (purse 14 => fail)))))
local macro_rules | `(tactic| purse 14 => fail) => `(tactic| (with_reducible (repeat (first | exact dpNil | (apply dpCons; (case h => (purse 13 => fail))))); done))
local macro_rules | `(tactic| purse 15 => fail) => `(tactic| (first | (purse 30 => fail) | (purse 31 => fail) | (purse 32 => fail) | (purse 33 => fail) | (purse 34 => fail) | (purse 35 => fail) | (purse 36 => fail) | (purse 37 => fail) | (purse 38 => fail) | (purse 39 => fail) | (purse 40 => fail) | (purse 41 => fail) | (purse 42 => fail) | (purse 43 => fail) | (purse 44 => fail) | (purse 45 => fail) | (purse 46 => fail) | (purse 99 => fail) | (purse 29 => fail)))
local macro_rules | `(tactic| purse 16 => fail) => `(tactic| (repeat' (purse 15 => fail)))
section

section
variable {P : Program} {w : World} {K : PySem.W.Frag} {mg : Str → Option Value} {base : Heap}
theorem ok_is_integer {f : Addr} {fd : FuncData} (F : Fun K "is_integer" "is_integer" s_is_integer f fd) (z_isinstance : mg "isinstance" = none) (z_bool : mg "bool" = none) (z_int : mg "int" = none) :
    FnOk P w K mg base CX0 1 f fd ["value", "low", "high"] (sp_is_integer K) := by
  refine F.ok sc_is_integer (fun vs H Q E h => sp_is_integer_len h) (fun cdv A outer s H vs Q E hr h => ?_)
  obtain ⟨v, lo, hi, d, rfl, hd, k⟩ := h
  refine ⟨_, (pss_one (ps_ret (pe_and (pe_callB (kisi K) (by rfl) z_isinstance (by decide +kernel) (pa_cons (pv 0) (pa_cons (pe_bltn (v := .ty "int") (by rfl) z_int (by decide +kernel) rfl) pa_nil))) (pe_and (pe_not (pe_callB (kisi K) (by rfl) z_isinstance (by decide +kernel) (pa_cons (pv 0) (pa_cons (pe_bltn (v := .ty "bool") (by rfl) z_bool (by decide +kernel) rfl) pa_nil)))) (pe_one (pe_chain op_le op_le (pv 1) (pv 0) (pv 2))))))), ?_⟩
  cases d with
  | int i =>
    cases hd
    (purse 16 => fail)
    all_goals (refine qbl ?_ (k _ (Same.refl _)); simp [isIntD, hc])
  | none => (purse 16 => fail); exact k _ (Same.refl _)
  | bool b => (purse 16 => fail); exact k _ (Same.refl _)
  | str b => (purse 16 => fail); exact k _ (Same.refl _)
  | list b => (purse 16 => fail); exact k _ (Same.refl _)
  | tuple b => (purse 16 => fail); exact k _ (Same.refl _)
  | dict b => cases hd
end
end
section
local macro_rules | `(tactic| purse 99 => fail) => `(tactic| (first | ((with_reducible refine' u_is_integer ?rdA ?_); (case rdA => (purse 2 => fail)); intro H2 h2)))
section
variable {P : Program} {w : World} {K : PySem.W.Frag} {mg : Str → Option Value} {base : Heap}
theorem ok_is_step {f : Addr} {fd : FuncData} (F : Fun K "is_step" "is_step" s_is_step f fd) (c_is_integer : Can P w K mg base 1 "is_integer" ["value", "low", "high"] (sp_is_integer K)) (z_len : mg "len" = none) (z_isinstance : mg "isinstance" = none) (z_str : mg "str" = none) (z_tuple : mg "tuple" = none) (g_OFFSET_BOUND : KInt mg "OFFSET_BOUND" 1000000000) :
    FnOk P w K mg base CX0 2 f fd ["value"] (sp_is_step K) := by
  refine F.ok sc_is_step (fun vs H Q E h => sp_is_step_len h) (fun cdv A outer s H vs Q E hr h => ?_)
  obtain ⟨v, d, rfl, hd, sh, k⟩ := h
  refine ⟨_, (pss_cons (ps_if (PW.pt (pw_or (pt_not (pt_val (pe_callB (kisi K) (by rfl) z_isinstance (by decide +kernel) (pa_cons (pv 0) (pa_cons (pe_bltn (v := .ty "tuple") (by rfl) z_tuple (by decide +kernel) rfl) pa_nil))))) (pw_or (pt_cmpR (keqD K hr.units) (pv 0) (pe_tup pa_nil) (nomark _)) (pw_or1 (pt_not (pt_val (pe_callB (kisi K) (by rfl) z_isinstance (by decide +kernel) (pa_cons (pe_ix (kix_tup K) (pv 0) pe_int (fun _ _ => rfl)) (pa_cons (pe_bltn (v := .ty "str") (by rfl) z_str (by decide +kernel) rfl) pa_nil))))))))) (pss_one (ps_ret pe_bl)) pss_nil) (pss_cons (ps_if (pt_cmpR op_eq (pe_ix (kix_tup K) (pv 0) pe_int (fun _ _ => rfl)) pe_str (nomark _)) (pss_one (ps_ret (pe_and (pe_cmpR op_eq (pe_callB (klen K) (by rfl) z_len (by decide +kernel) (pa_cons (pv 0) pa_nil)) pe_int (nomark _)) (pe_one (pe_can c_is_integer (hr.mono (by decide)) (by rfl) (pa_cons (pe_ix (kix_tup K) (pv 0) pe_int (fun _ _ => rfl)) (pa_cons pe_int (pa_cons pe_int pa_nil)))))))) pss_nil) (pss_cons (ps_if (PW.pt (pw_or (pt_cmpR op_ne (pe_ix (kix_tup K) (pv 0) pe_int (fun _ _ => rfl)) pe_str (nomark _)) (pw_or1 (pt_cmpR op_ne (pe_callB (klen K) (by rfl) z_len (by decide +kernel) (pa_cons (pv 0) pa_nil)) pe_int (nomark _))))) (pss_one (ps_ret pe_bl)) pss_nil) (pss_cons (ps_if (PW.pt (pw_or (pt_not (pt_val (pe_can c_is_integer (hr.mono (by decide)) (by rfl) (pa_cons (pe_ix (kix_tup K) (pv 0) pe_int (fun _ _ => rfl)) (pa_cons pe_int (pa_cons pe_int pa_nil)))))) (pw_or1 (pt_not (pt_val (pe_can c_is_integer (hr.mono (by decide)) (by rfl) (pa_cons (pe_ix (kix_tup K) (pv 0) pe_int (fun _ _ => rfl)) (pa_cons pe_int (pa_cons pe_int pa_nil))))))))) (pss_one (ps_ret pe_bl)) pss_nil) (pss_one (ps_ret (pe_can c_is_integer (hr.mono (by decide)) (by rfl) (pa_cons (pe_ix (kix_tup K) (pv 0) pe_int (fun _ _ => rfl)) (pa_cons (pe_op op_sub pe_int (pe_k (by rfl) g_OFFSET_BOUND)) (pa_cons (pe_k (by rfl) g_OFFSET_BOUND) pa_nil)))))))))), ?_⟩
  cases d with
  | int i => (purse 16 => fail); exact k _ (Same.refl _)
  | none => (purse 16 => fail); exact k _ (Same.refl _)
  | bool b => (purse 16 => fail); exact k _ (Same.refl _)
  | str b => (purse 16 => fail); exact k _ (Same.refl _)
  | list b => (purse 16 => fail); exact k _ (Same.refl _)
  | dict b => cases hd
  | tuple ds =>
    have hd' := hd
    cases hd with
    | tup hS ha =>
      cases ha with
      | nil => (purse 16 => fail); exact k _ (by (purse 1 => fail))
      | @cons v0 vr d0 dr h0 hr =>
        cases d0 with
        | int i => (purse 16 => fail); exact k _ (by (purse 1 => fail))
        | none => (purse 16 => fail); exact k _ (by (purse 1 => fail))
        | bool b => (purse 16 => fail); exact k _ (by (purse 1 => fail))
        | list b => (purse 16 => fail); exact k _ (by (purse 1 => fail))
        | tuple b => (purse 16 => fail); exact k _ (by (purse 1 => fail))
        | dict b => cases h0
        | str t =>
          have h0' := h0
          cases h0
          by_cases te : t = "even"
          · have e1 := decStr te
            cases hr with
            | nil => (purse 16 => fail); exact qbl (by simp [isStepD, te]) (k _ (by (purse 1 => fail)))
            | cons h1 hr =>
              cases hr with
              | nil => (purse 16 => fail); exact qbl (by simp [isStepD, te]) (k _ (by (purse 1 => fail)))
              | cons h2 hr => (purse 16 => fail); exact qbl (by simp [isStepD, te]) (k _ (by (purse 1 => fail)))
          · have e1 := decStrN te
            by_cases ts : t = "scale"
            · have e2 := decStr ts
              cases hr with
              | nil => (purse 16 => fail); exact qbl (by simp [isStepD, te, ts, se_ne]) (k _ (by (purse 1 => fail)))
              | cons h1 hr =>
                cases hr with
                | nil => (purse 16 => fail); exact qbl (by simp [isStepD, te, ts, se_ne]) (k _ (by (purse 1 => fail)))
                | cons h2 hr =>
                  cases hr with
                  | nil => (purse 16 => fail); exact qbl (by simp [isStepD, te, ts, se_ne]) (k _ (by (purse 1 => fail)))
                  | cons h3 hr =>
                    cases hr with
                    | nil =>
                      (purse 16 => fail)
                      all_goals (refine qbl ?_ (k _ (by (purse 1 => fail))); subst ts; simp_all [isStepD, se_ne])
                    | cons h4 hr => (purse 16 => fail); exact qbl (by simp [isStepD, te, ts, se_ne]) (k _ (by (purse 1 => fail)))
            · have e2 := decStrN ts
              (purse 16 => fail); exact qbl (by simp [isStepD, te, ts, se_ne]) (k _ (by (purse 1 => fail)))
end
end
section

section
variable {P : Program} {w : World} {K : PySem.W.Frag} {mg : Str → Option Value} {base : Heap}
theorem ok_step_period {f : Addr} {fd : FuncData} (F : Fun K "step_period" "step_period" s_step_period f fd)  :
    FnOk P w K mg base CX0 1 f fd ["step"] (sp_step_period K) := by
  refine F.ok sc_step_period (fun vs H Q E h => sp_step_period_len h) (fun cdv A outer s H vs Q E hr h => ?_)
  obtain ⟨v, st, rfl, ⟨a, rfl, hS⟩, hp, k⟩ := h
  refine ⟨_, (pss_cons (ps_if (pt_cmpR op_eq (pe_ix (kix_tup K) (pv 0) pe_int (fun _ _ => rfl)) pe_str (nomark _)) (pss_one (ps_ret (pe_tup (pa_cons (pe_ix (kix_tup K) (pv 0) pe_int (fun _ _ => rfl)) (pa_cons (pe_ix (kix_tup K) (pv 0) pe_int (fun _ _ => rfl)) pa_nil))))) pss_nil) (pss_cons (ps_set (i := 1) sc_step_period.nd rfl (Or.inl rfl) (pe_ix (kix_tup K) (pv 0) pe_int (fun _ _ => rfl))) (pss_one (ps_ret (pe_ifExp (pt_cmpR op_eq (pe_op op_mod (pv 1) pe_int) pe_int (nomark _)) (pe_tup (pa_cons (pe_op op_mul pe_int (pv 1)) (pa_cons pe_int pa_nil))) (pe_tup (pa_cons (pv 1) (pa_cons pe_int pa_nil)))))))), ?_⟩
  cases st with
  | sc ks m c =>
    obtain ⟨⟨k1, k2⟩, m1, m2⟩ := hp
    (purse 16 => fail)
    exact k _ _ (by (purse 1 => fail)) SqT.new
  | ev m =>
    obtain ⟨m1, m2⟩ := hp
    (purse 16 => fail)
    · refine k _ _ (by (purse 1 => fail)) ?_
      show SqT K _ _ [.int (if m % 2 = 0 then 2 * m else m), .int (if m % 2 = 0 then 2 else 1)]
      rw [if_pos hc, if_pos hc]; exact SqT.new
    · refine k _ _ (by (purse 1 => fail)) ?_
      show SqT K _ _ [.int (if m % 2 = 0 then 2 * m else m), .int (if m % 2 = 0 then 2 else 1)]
      rw [if_neg hc, if_neg hc]; exact SqT.new
end
end
section
local macro_rules | `(tactic| purse 99 => fail) => `(tactic| (first | ((with_reducible refine' u_step_period ?rdA ?rdB ?_); (case rdA => (purse 2 => fail)); (case rdB => assumption); intro p2 H2 h2 t2) | ((with_reducible refine' u_is_step ?rdA ?rdB ?_); (case rdA => (purse 2 => fail)); (case rdB => assumption); intro H2 h2)))
section
variable {P : Program} {w : World} {K : PySem.W.Frag} {mg : Str → Option Value} {base : Heap}
theorem ok_is_pipeline {f : Addr} {fd : FuncData} (F : Fun K "is_pipeline" "is_pipeline" s_is_pipeline f fd) (c_step_period : Can P w K mg base 1 "step_period" ["step"] (sp_step_period K)) (c_is_step : Can P w K mg base 2 "is_step" ["value"] (sp_is_step K)) (z_all : mg "all" = none) (z_len : mg "len" = none) (z_isinstance : mg "isinstance" = none) (z_tuple : mg "tuple" = none) (g_MAX_PERIOD : KInt mg "MAX_PERIOD" 120) (g_MAX_STEPS : KInt mg "MAX_STEPS" 6) :
    FnOk P w K mg base CX0 3 f fd ["value"] (sp_is_pipeline K) := by
  refine F.ok sc_is_pipeline (fun vs H Q E h => sp_is_pipeline_len h) (fun cdv A outer s H vs Q E hr h => ?_)
  obtain ⟨v, d, rfl, hd, sh, k⟩ := h
  refine ⟨_, (pss_cons (ps_if (PW.pt (pw_or (pt_not (pt_val (pe_callB (kisi K) (by rfl) z_isinstance (by decide +kernel) (pa_cons (pv 0) (pa_cons (pe_bltn (v := .ty "tuple") (by rfl) z_tuple (by decide +kernel) rfl) pa_nil))))) (pw_or (pt_cmpR op_gt (pe_callB (klen K) (by rfl) z_len (by decide +kernel) (pa_cons (pv 0) pa_nil)) (pe_k (by rfl) g_MAX_STEPS) (nomark _)) (pw_or1 (pt_not (pt_val (pe_callB (kall K) (by rfl) z_all (by decide +kernel) (pa_cons (pe_lc (own := [("step", 1)]) (by rfl) sc_is_pipeline.nd (kpi_tup K (pv 0)) (blkOk_by (own := [("step", 1)]) (N := n_is_pipeline) (sc := defScope s_is_pipeline) (by decide +kernel)) (fun _ _ _ _ _ => (pg_name (i := 1) sc_is_pipeline.nd rfl (Or.inl rfl))) (fun _ _ _ _ _ => pts_nil) (fun _ _ _ _ _ => (pe_can c_is_step (hr.mono (by decide)) (by rfl) (pa_cons (pv 1) pa_nil)))) pa_nil)))))))) (pss_one (ps_ret pe_bl)) pss_nil) (pss_cons (ps_set (i := 2) sc_is_pipeline.nd rfl (Or.inl rfl) pe_int) (pss_cons (ps_for PassesOwn.never rfl (kpi_tup K (pv 0)) (pg_name (i := 1) sc_is_pipeline.nd rfl (Or.inl rfl)) (pss_one (ps_set (i := 2) sc_is_pipeline.nd rfl (Or.inl rfl) (pe_op op_mul (pv 2) (pe_ix (kix_tup K) (pe_can c_step_period (hr.mono (by decide)) (by rfl) (pa_cons (pv 1) pa_nil)) pe_int (fun _ _ => rfl)))))) (pss_one (ps_ret (pe_cmpR op_le (pv 2) (pe_k (by rfl) g_MAX_PERIOD) (nomark _))))))), ?_⟩
  cases d with
  | int i => (purse 16 => fail); exact k _ (Same.refl _)
  | none => (purse 16 => fail); exact k _ (Same.refl _)
  | bool b => (purse 16 => fail); exact k _ (Same.refl _)
  | str b => (purse 16 => fail); exact k _ (Same.refl _)
  | list b => (purse 16 => fail); exact k _ (Same.refl _)
  | dict b => cases hd
  | tuple ds =>
    have hd' := hd
    cases hd with
    | tup hS ha =>
      rw [shaped_tup, Bool.and_eq_true, decide_eq_true_eq] at sh
      obtain ⟨sh1, sh2⟩ := sh
      have hl := DpAll.len ha
      (purse 16 => fail)
      · exact qbl (by simp [isPipeD]; omega) (k _ (by (purse 1 => fail)))
      · refine ll_tup (ys := ds.map isStepD) V.bl hS (by simp [hl]) (by rw [List.length_map]; omega) (fun _ => rfl) ?_ ?_
        · intro i x y H' Q' hx hy hs kq
          obtain ⟨d, hd, hdx⟩ := DpAll.get ha hx
          rw [List.getElem?_map, hd] at hy
          cases hy
          (purse 16 => fail)
          exact u_is_step (Dp.same hs hdx) (shaped_mem sh1 sh2 d (List.mem_of_getElem? hd)) fun H4 h4 => kq _ h4
        · intro D H1 hs hD hn
          (purse 16 => fail)
          refine r_all (SqL.of hD) ?_
          (purse 16 => fail)
          · refine qbl ?_ (k _ (by (purse 1 => fail)))
            have e : ds.all isStepD = false := by
              rw [List.all_map] at hc
              simpa using hc
            simp [isPipeD, e]
          · have e : ds.all isStepD = true := by
              rw [List.all_map] at hc
              simpa using hc
            obtain ⟨p, rfl, hp⟩ := steps_of e
            have hx := ofDpAll ha
            refine fl_P (p := p) hS hx (fun i σ' H' => Same H H' ∧ ∃ w, σ' = [some (.ref _), w, some (.int (Pipe.prod (p.take i)))]) ⟨hs, _, rfl⟩ (fun _ _ _ h => .ofSame h.1) ?_ ?_
            · rintro i s v σ' H' hi hm hs' ⟨hH, w, rfl⟩
              have ps := (hp s hm).pos
              obtain ⟨pb1, pb2⟩ := Step.per_pos (hp s hm)
              (purse 16 => fail)
              exact ⟨by (purse 1 => fail), _, by rw [prod_take hi]; rfl⟩
            · rintro σ' H' ⟨hH, w, rfl⟩
              (purse 16 => fail)
              refine qbl ?_ (k _ hH)
              rw [List.take_length]
              simp only [isPipeD, Pipe.prod, e, Bool.and_true, List.map_map]
              have e2 : (perD ∘ Step.data) = Step.per := funext perD_data
              rw [e2]
              rw [List.length_map] at hl
              have e3 : decide ((List.map Step.data p).length ≤ 6) = true := decide_eq_true (by rw [List.length_map]; omega)
              rw [e3]
              simp
              try rfl
end
end
section
local macro_rules | `(tactic| purse 99 => fail) => `(tactic| (first | ((with_reducible refine' u_is_pipelineP ?rdA ?rdB ?_); (case rdA => (purse 2 => fail)); (case rdB => (first | assumption | decide)); intro H2 h2) | ((with_reducible refine' u_is_pipelineQ ?rdA ?_); (case rdA => (purse 2 => fail)); intro H2 h2)))
section
variable {P : Program} {w : World} {K : PySem.W.Frag} {mg : Str → Option Value} {base : Heap}
theorem ok_need_pipeline {f : Addr} {fd : FuncData} (F : Fun K "need_pipeline" "need_pipeline" s_need_pipeline f fd) (c_is_pipeline : Can P w K mg base 3 "is_pipeline" ["value"] (sp_is_pipeline K)) :
    FnOk P w K mg base CX0 4 f fd ["value"] (sp_need_pipeline K) := by
  refine F.ok sc_need_pipeline (fun vs H Q E h => sp_need_pipeline_len h) (fun cdv A outer s H vs Q E hr h => ?_)
  obtain ⟨v, p, rfl, hp, ok, k⟩ := h
  refine ⟨_, (pss_one (ps_if (pt_not (pt_val (pe_can c_is_pipeline (hr.mono (by decide)) (by rfl) (pa_cons (pv 0) pa_nil)))) (pss_one ps_never) pss_nil)), ?_⟩
  (purse 16 => fail)
  exact k _ (by (purse 1 => fail))
end
end
section
local macro_rules | `(tactic| purse 99 => fail) => `(tactic| (first | ((with_reducible refine' u_is_integer ?rdA ?_); (case rdA => (purse 2 => fail)); intro H2 h2)))
section
variable {P : Program} {w : World} {K : PySem.W.Frag} {mg : Str → Option Value} {base : Heap}
theorem ok_need_integer {f : Addr} {fd : FuncData} (F : Fun K "need_integer" "need_integer" s_need_integer f fd) (c_is_integer : Can P w K mg base 1 "is_integer" ["value", "low", "high"] (sp_is_integer K)) (g_BOUND : KInt mg "BOUND" 1000000000000000000) :
    FnOk P w K mg base CX0 2 f fd ["value"] (sp_need_integer K) := by
  refine F.ok sc_need_integer (fun vs H Q E h => sp_need_integer_len h) (fun cdv A outer s H vs Q E hr h => ?_)
  obtain ⟨x, rfl, hx, k⟩ := h
  refine ⟨_, (pss_one (ps_if (pt_not (pt_val (pe_can c_is_integer (hr.mono (by decide)) (by rfl) (pa_cons (pv 0) (pa_cons (pe_op op_sub pe_int (pe_k (by rfl) g_BOUND)) (pa_cons (pe_k (by rfl) g_BOUND) pa_nil)))))) (pss_one ps_never) pss_nil)), ?_⟩
  (purse 16 => fail)
  · simp [isIntD] at hc; omega
  · exact k _ (by (purse 1 => fail))
end
end
section
local macro_rules | `(tactic| purse 99 => fail) => `(tactic| (first | ((with_reducible refine' u_is_integer ?rdA ?_); (case rdA => (purse 2 => fail)); intro H2 h2)))
section
variable {P : Program} {w : World} {K : PySem.W.Frag} {mg : Str → Option Value} {base : Heap}
theorem ok_need_range {f : Addr} {fd : FuncData} (F : Fun K "need_range" "need_range" s_need_range f fd) (c_is_integer : Can P w K mg base 1 "is_integer" ["value", "low", "high"] (sp_is_integer K)) (g_BOUND : KInt mg "BOUND" 1000000000000000000) :
    FnOk P w K mg base CX0 2 f fd ["low", "high"] (sp_need_range K) := by
  refine F.ok sc_need_range (fun vs H Q E h => sp_need_range_len h) (fun cdv A outer s H vs Q E hr h => ?_)
  obtain ⟨lo, hi, rfl, hx, k⟩ := h
  refine ⟨_, (pss_one (ps_if (PW.pt (pw_or (pt_not (pt_val (pe_can c_is_integer (hr.mono (by decide)) (by rfl) (pa_cons (pv 0) (pa_cons (pe_op op_sub pe_int (pe_k (by rfl) g_BOUND)) (pa_cons (pe_k (by rfl) g_BOUND) pa_nil)))))) (pw_or1 (pt_not (pt_val (pe_can c_is_integer (hr.mono (by decide)) (by rfl) (pa_cons (pv 1) (pa_cons (pv 0) (pa_cons (pe_k (by rfl) g_BOUND) pa_nil))))))))) (pss_one ps_never) pss_nil)), ?_⟩
  (purse 16 => fail)
  all_goals first
    | exact k _ (by (purse 1 => fail))
    | (exfalso; simp [isIntD] at hc; omega)
end
end
section

section
variable {P : Program} {w : World} {K : PySem.W.Frag} {mg : Str → Option Value} {base : Heap}
theorem ok_step_value {f : Addr} {fd : FuncData} (F : Fun K "step_value" "step_value" s_step_value f fd) (z_int : mg "int" = none) :
    FnOk P w K mg base CX0 1 f fd ["step", "x"] (sp_step_value K) := by
  refine F.ok sc_step_value (fun vs H Q E h => sp_step_value_len h) (fun cdv A outer s H vs Q E hr h => ?_)
  obtain ⟨v, st, x, rfl, ⟨a, rfl, hS⟩, hp, k⟩ := h
  refine ⟨_, (pss_cons (ps_if (pt_cmpR op_eq (pe_ix (kix_tup K) (pv 0) pe_int (fun _ _ => rfl)) pe_str (nomark _)) (pss_one (ps_ret (pe_op op_fdiv (pe_op op_add (pe_op op_mul (pe_ix (kix_tup K) (pv 0) pe_int (fun _ _ => rfl)) (pv 1)) (pe_ix (kix_tup K) (pv 0) pe_int (fun _ _ => rfl))) (pe_ix (kix_tup K) (pv 0) pe_int (fun _ _ => rfl))))) pss_nil) (pss_cons (ps_set (i := 2) sc_step_value.nd rfl (Or.inl rfl) (pe_ix (kix_tup K) (pv 0) pe_int (fun _ _ => rfl))) (pss_cons (ps_par (i := 3) (j := 4) (by rfl) sc_step_value.nd rfl rfl (by decide) rfl rfl (pa_cons (pe_op op_fdiv (pv 1) (pv 2)) (pa_cons (pe_op op_mod (pv 1) (pv 2)) pa_nil)) (by rfl)) (pss_cons (ps_if (pt_cmpR op_eq (pe_op op_mul pe_int (pv 4)) (pv 2) (nomark _)) (pss_one (ps_ret (pe_op op_add (pv 3) (pe_op op_mod (pv 3) pe_int)))) pss_nil) (pss_one (ps_ret (pe_op op_add (pv 3) (pe_callTy kint1 (by rfl) z_int (by decide +kernel) (pa_cons (pe_cmpR op_gt (pe_op op_mul pe_int (pv 4)) (pv 2) (nomark _)) pa_nil))))))))), ?_⟩
  cases st with
  | sc ks m c =>
    obtain ⟨⟨k1, k2⟩, m1, m2⟩ := hp
    (purse 16 => fail)
    exact k _ (Same.refl _)
  | ev m =>
    obtain ⟨m1, m2⟩ := hp
    (purse 16 => fail)
    · refine qint ?_ (k _ (Same.refl _))
      show _ = if _ then _ else _
      rw [if_pos hc]
    · refine qint ?_ (k _ (Same.refl _))
      show _ = if _ then _ else _
      rw [if_neg hc]
      by_cases h2 : m < 2 * (x % m)
      · rw [if_pos h2, decide_eq_true h2]; rfl
      · rw [if_neg h2, decide_eq_false h2]; rfl
end
end
section
local macro_rules | `(tactic| purse 99 => fail) => `(tactic| (first | ((with_reducible refine' u_step_value ?rdA ?rdB ?_); (case rdA => (purse 2 => fail)); (case rdB => assumption); intro H2 h2)))
section
variable {P : Program} {w : World} {K : PySem.W.Frag} {mg : Str → Option Value} {base : Heap}
theorem ok_value_at {f : Addr} {fd : FuncData} (F : Fun K "value_at" "value_at" s_value_at f fd) (c_step_value : Can P w K mg base 1 "step_value" ["step", "x"] (sp_step_value K)) :
    FnOk P w K mg base CX0 2 f fd ["pipeline", "x"] (sp_value_at K) := by
  refine F.ok sc_value_at (fun vs H Q E h => sp_value_at_len h) (fun cdv A outer s H vs Q E hr h => ?_)
  obtain ⟨v, p, x, rfl, ⟨a, xs, rfl, hS, hx⟩, hp, k⟩ := h
  refine ⟨_, (pss_cons (ps_for PassesOwn.never rfl (kpi_tup K (pv 0)) (pg_name (i := 2) sc_value_at.nd rfl (Or.inl rfl)) (pss_one (ps_set (i := 1) sc_value_at.nd rfl (Or.inl rfl) (pe_can c_step_value (hr.mono (by decide)) (by rfl) (pa_cons (pv 2) (pa_cons (pv 1) pa_nil)))))) (pss_one (ps_ret (pv 1)))), ?_⟩
  (purse 16 => fail)
  refine fl_P (p := p) hS hx (fun i σ' H' => Same H H' ∧ ∃ w, σ' = [some (.ref a), some (.int (Pipe.val (p.take i) x)), w]) ⟨Same.refl _, _, rfl⟩ (fun _ _ _ h => .ofSame h.1) ?_ ?_
  · rintro i s v σ' H' hi hm hs ⟨hH, w, rfl⟩
    (purse 16 => fail)
    refine u_step_value hs (hp s hm) fun H2 h2 => ?_
    (purse 16 => fail)
    exact ⟨hH.trans h2, _, by rw [Pipe.val_take hi]; rfl⟩
  · rintro σ' H' ⟨hH, w, rfl⟩
    (purse 16 => fail)
    refine qint ?_ (k _ hH)
    rw [List.take_length]
end
end
section
local macro_rules | `(tactic| purse 99 => fail) => `(tactic| (first | ((with_reducible refine' u_value_at ?rdA ?rdB ?_); (case rdA => (purse 2 => fail)); (case rdB => (first | assumption | decide)); intro H2 h2) | ((with_reducible refine' u_need_integer ?rdA ?_); (case rdA => (first | assumption | omega | (constructor <;> omega))); intro H2 h2) | ((with_reducible refine' u_need_pipeline ?rdA ?rdB ?_); (case rdA => (purse 2 => fail)); (case rdB => (first | assumption | decide)); intro H2 h2)))
section
variable {P : Program} {w : World} {K : PySem.W.Frag} {mg : Str → Option Value} {base : Heap}
theorem ok_apply {f : Addr} {fd : FuncData} (F : Fun K "apply" "apply" s_apply f fd) (c_value_at : Can P w K mg base 2 "value_at" ["pipeline", "x"] (sp_value_at K)) (c_need_integer : Can P w K mg base 2 "need_integer" ["value"] (sp_need_integer K)) (c_need_pipeline : Can P w K mg base 4 "need_pipeline" ["value"] (sp_need_pipeline K)) :
    FnOk P w K mg base CX0 5 f fd ["pipeline", "x"] (sp_apply K) := by
  refine F.ok sc_apply (fun vs H Q E h => sp_apply_len h) (fun cdv A outer s H vs Q E hr h => ?_)
  obtain ⟨v, p, x, rfl, hp, ok, b, k⟩ := h
  have ps := ok.pos
  refine ⟨_, (pss_cons (ps_expr (pe_can c_need_pipeline (hr.mono (by decide)) (by rfl) (pa_cons (pv 0) pa_nil))) (pss_cons (ps_expr (pe_can c_need_integer (hr.mono (by decide)) (by rfl) (pa_cons (pv 1) pa_nil))) (pss_one (ps_ret (pe_can c_value_at (hr.mono (by decide)) (by rfl) (pa_cons (pv 0) (pa_cons (pv 1) pa_nil))))))), ?_⟩
  (purse 16 => fail)
  exact k _ (by (purse 1 => fail))
end
end
section

section
variable {P : Program} {w : World} {K : PySem.W.Frag} {mg : Str → Option Value} {base : Heap}
theorem ok_greatest_divisor {f : Addr} {fd : FuncData} (F : Fun K "greatest_divisor" "greatest_divisor" s_greatest_divisor f fd)  :
    FnOk P w K mg base CX0 1 f fd ["a", "b"] (sp_greatest_divisor K) := by
  refine F.ok sc_greatest_divisor (fun vs H Q E h => sp_greatest_divisor_len h) (fun cdv A outer s H vs Q E hr h => ?_)
  obtain ⟨a, b, rfl, ha, hb, k⟩ := h
  refine ⟨_, (pss_cons (ps_while PassesOwn.never (pt_cmpR op_ne (pv 1) pe_int (nomark _)) (pss_one (ps_par (i := 0) (j := 1) (by rfl) sc_greatest_divisor.nd rfl rfl (by decide) rfl rfl (pa_cons (pv 1) (pa_cons (pe_op op_mod (pv 0) (pv 1)) pa_nil)) (by rfl)))) (pss_one (ps_ret (pv 0)))), ?_⟩
  (purse 16 => fail)
  refine s_while (fun n σ' H' => Same H H' ∧ ∃ x y : Int, n = y.toNat ∧ 0 ≤ x ∧ 0 ≤ y ∧ gcdI x y = gcdI a b ∧ σ' = [some (.int x), some (.int y)]) _ ⟨Same.refl _, _, _, rfl, ha, hb, rfl, rfl⟩ ?_
  rintro n σ' H' ⟨hS, x, y, rfl, hx, hy, hg, rfl⟩
  (purse 16 => fail)
  · have hy' : 0 < y := by omega
    have hm := emod_b (x := x) hy'
    refine ⟨fun σ3 H3 => Same H H3 ∧ σ3 = [some (.int y), some (.int (x % y))], ?_, ?_⟩
    · rintro σ3 H3 ⟨h3, rfl⟩
      exact ⟨(x % y).toNat, by omega, h3, _, _, rfl, by omega, hm.1, by rw [gcdI_step hx hy', hg], rfl⟩
    · (purse 16 => fail)
      exact ⟨hS, rfl⟩
  · subst hc
    rw [gcdI_zero hx] at hg
    exact qint hg (k _ hS)
end
end
section
local macro_rules | `(tactic| purse 99 => fail) => `(tactic| (first | ((with_reducible refine' u_greatest_divisor ?rdA ?rdB ?_); (case rdA => omega); (case rdB => omega); intro H2 h2)))
section
variable {P : Program} {w : World} {K : PySem.W.Frag} {mg : Str → Option Value} {base : Heap}
theorem ok_fraction {f : Addr} {fd : FuncData} (F : Fun K "fraction" "fraction" s_fraction f fd) (c_greatest_divisor : Can P w K mg base 1 "greatest_divisor" ["a", "b"] (sp_greatest_divisor K)) (z_abs : mg "abs" = none) :
    FnOk P w K mg base CX0 2 f fd ["top", "bottom"] (sp_fraction K) := by
  refine F.ok sc_fraction (fun vs H Q E h => sp_fraction_len h) (fun cdv A outer s H vs Q E hr h => ?_)
  obtain ⟨t, b, rfl, hb, k⟩ := h
  have h1 := absI_nn t
  have h2 : ∀ a, 1 ≤ gcdI a b := fun a => gcdI_pos hb.1
  have h3 : ∀ a, gcdI a b ≤ b := fun a => gcdI_le hb.1
  have g1 := h2 (absI t); have g2 := h3 (absI t)
  have ea : (if t < 0 then -t else t) = absI t := rfl
  refine ⟨_, (pss_cons (ps_set (i := 2) sc_fraction.nd rfl (Or.inl rfl) (pe_can c_greatest_divisor (hr.mono (by decide)) (by rfl) (pa_cons (pe_callB kabs (by rfl) z_abs (by decide +kernel) (pa_cons (pv 0) pa_nil)) (pa_cons (pv 1) pa_nil)))) (pss_one (ps_ret (pe_tup (pa_cons (pe_op op_fdiv (pv 0) (pv 2)) (pa_cons (pe_op op_fdiv (pv 1) (pv 2)) pa_nil)))))), ?_⟩
  (purse 16 => fail)
  simp only [ea]
  (purse 16 => fail)
  exact k _ _ (by (purse 1 => fail)) SqT.new
end
end
section
local macro_rules | `(tactic| purse 99 => fail) => `(tactic| (first | ((with_reducible refine' u_greatest_divisor ?rdA ?rdB ?_); (case rdA => omega); (case rdB => omega); intro H2 h2) | ((with_reducible refine' u_step_period ?rdA ?rdB ?_); (case rdA => (purse 2 => fail)); (case rdB => assumption); intro p2 H2 h2 t2)))
section
variable {P : Program} {w : World} {K : PySem.W.Frag} {mg : Str → Option Value} {base : Heap}
theorem ok_some_period {f : Addr} {fd : FuncData} (F : Fun K "some_period" "some_period" s_some_period f fd) (c_greatest_divisor : Can P w K mg base 1 "greatest_divisor" ["a", "b"] (sp_greatest_divisor K)) (c_step_period : Can P w K mg base 1 "step_period" ["step"] (sp_step_period K)) :
    FnOk P w K mg base CX0 2 f fd ["steps"] (sp_some_period K) := by
  refine F.ok sc_some_period (fun vs H Q E h => sp_some_period_len h) (fun cdv A outer s H vs Q E hr h => ?_)
  obtain ⟨v, p, rfl, ⟨a, xs, rfl, hS, hx⟩, hp, k⟩ := h
  refine ⟨_, (pss_cons (ps_asg (pe_tup (pa_cons pe_int (pa_cons pe_int pa_nil))) (kpg_tup K (n := 2) (pgs_cons (pg_name (i := 1) sc_some_period.nd rfl (Or.inl rfl)) (pgs_cons (pg_name (i := 2) sc_some_period.nd rfl (Or.inl rfl)) pgs_nil)))) (pss_cons (ps_for PassesOwn.never rfl (kpi_tup K (pv 0)) (pg_name (i := 3) sc_some_period.nd rfl (Or.inl rfl)) (pss_cons (ps_asg (pe_can c_step_period (hr.mono (by decide)) (by rfl) (pa_cons (pv 3) pa_nil)) (kpg_tup K (n := 2) (pgs_cons (pg_name (i := 4) sc_some_period.nd rfl (Or.inl rfl)) (pgs_cons (pg_name (i := 5) sc_some_period.nd rfl (Or.inl rfl)) pgs_nil)))) (pss_cons (ps_set (i := 6) sc_some_period.nd rfl (Or.inl rfl) (pe_op op_fdiv (pv 4) (pe_can c_greatest_divisor (hr.mono (by decide)) (by rfl) (pa_cons (pv 2) (pa_cons (pv 4) pa_nil))))) (pss_one (ps_par (i := 1) (j := 2) (by rfl) sc_some_period.nd rfl rfl (by decide) rfl rfl (pa_cons (pe_op op_mul (pv 1) (pv 6)) (pa_cons (pe_op op_fdiv (pe_op op_mul (pe_op op_mul (pv 2) (pv 6)) (pv 5)) (pv 4)) pa_nil)) (by rfl)))))) (pss_one (ps_ret (pe_tup (pa_cons (pv 1) (pa_cons (pv 2) pa_nil))))))), ?_⟩
  (purse 16 => fail)
  refine fl_P (p := p) hS hx (fun i σ' H' => Same H H' ∧ ∃ (L R : Int) (w3 w4 w5 w6 : Option V), QP (Pipe.val (p.take i)) L R ∧ 1 ≤ L ∧ L ≤ Pipe.prod (p.take i) ∧ 1 ≤ R ∧
    σ' = [some (.ref a), some (.int L), some (.int R), w3, w4, w5, w6]) ⟨by (purse 1 => fail), 1, 1, _, _, _, _, fun x => rfl, Int.le_refl _, Int.le_refl _, Int.le_refl _, rfl⟩ (fun _ _ _ h => .ofSame h.1) ?_ ?_
  · rintro i s v σ' H' hi hm hs ⟨hH, L, R, w3, w4, w5, w6, hq, hL1, hL2, hR, rfl⟩
    have ps := hp s hm
    obtain ⟨o1, o2⟩ := Step.per_pos' ps
    obtain ⟨o3, o4⟩ := Step.rise_pos ps
    have gp := gcdI_pos (a := R) (b := s.per) (by omega)
    have gl := gcdI_le (a := R) (b := s.per) (by omega)
    obtain ⟨t1, t2, tq, tL, tM, tR⟩ := period_step (M := Pipe.prod (p.take i)) ps hq hL1 hL2 hR
    (purse 16 => fail)
    refine ⟨by (purse 1 => fail), _, _, _, _, _, _, ?_, tL, ?_, tR, rfl⟩
    · rw [← Pipe.val_take_fun hi]; exact tq
    · rw [prod_take hi]; exact tM
  · rintro σ' H' ⟨hH, L, R, w3, w4, w5, w6, hq, hL1, hL2, hR, rfl⟩
    rw [List.take_length] at hq hL2
    (purse 16 => fail)
    exact k _ L R _ (by (purse 1 => fail)) SqT.new hq ⟨hL1, hL2⟩ hR
end
end
section
local macro_rules | `(tactic| purse 99 => fail) => `(tactic| (first | ((with_reducible refine' u_value_at ?rdA ?rdB ?_); (case rdA => (purse 2 => fail)); (case rdB => (first | assumption | decide)); intro H2 h2)))
section
variable {P : Program} {w : World} {K : PySem.W.Frag} {mg : Str → Option Value} {base : Heap}
theorem ok_differences {f : Addr} {fd : FuncData} (F : Fun K "differences" "differences" s_differences f fd) (c_value_at : Can P w K mg base 2 "value_at" ["pipeline", "x"] (sp_value_at K)) (z_zip : mg "zip" = none) (z_range : mg "range" = none) :
    FnOk P w K mg base CX0 3 f fd ["steps", "length"] (sp_differences K) := by
  refine F.ok sc_differences (fun vs H Q E h => sp_differences_len h) (fun cdv A outer s H vs Q E hr h => ?_)
  obtain ⟨v, p, n, rfl, hP, hp, hn, k⟩ := h
  refine ⟨_, (pss_cons (ps_setLc (i := 2) (own := [("x", 3)]) (by rfl) sc_differences.nd rfl rfl (sw_true rfl rfl rfl (by decide +kernel)) (pi_range1 (by rfl) z_range (pa_cons (pe_op op_add (pv 1) pe_int) pa_nil)) (blkOk_by (own := [("x", 3)]) (N := n_differences) (sc := defScope s_differences) (by decide +kernel)) (fun _ _ _ _ _ => (pg_name (i := 3) sc_differences.nd rfl (Or.inl rfl))) (fun _ _ _ _ _ => pts_nil) (fun _ _ _ _ _ => (pe_can c_value_at (hr.mono (by decide)) (by rfl) (pa_cons (pv 0) (pa_cons (pv 3) pa_nil))))) (pss_one (ps_ret (pe_lc (own := [("before", 4), ("after", 5)]) (by rfl) sc_differences.nd (kpi_zip K (by rfl) z_zip (pa_cons (pv 2) (pa_cons (pe_slice (ksl_list K) (pv 2) (po_some pe_int) po_none) pa_nil))) (blkOk_by (own := [("before", 4), ("after", 5)]) (N := n_differences) (sc := defScope s_differences) (by decide +kernel)) (fun _ _ _ _ _ => (kpg_tup K (n := 2) (pgs_cons (pg_name (i := 4) sc_differences.nd rfl (Or.inl rfl)) (pgs_cons (pg_name (i := 5) sc_differences.nd rfl (Or.inl rfl)) pgs_nil)))) (fun _ _ _ _ _ => pts_nil) (fun _ _ _ _ _ => (pe_op op_sub (pv 5) (pv 4))))))), ?_⟩
  (purse 16 => fail)
  refine ll_range (fun i => .int (p.val i)) (by omega) (fun _ => rfl) ?_ ?_
  · intro i H' Q' hi hs kq
    (purse 16 => fail)
    exact qint (by rw [Int.zero_add]) (kq _ h2)
  · intro D H' hs hD hn
    have hD' : H' D = some (.lst (((List.range (n + 1).toNat).map fun (i : Nat) => p.val i).map V.int)) := by rw [hD, List.map_map]; rfl
    (purse 16 => fail)
    refine ll_zip (zs := diffs p.val n.toNat) V.int (by (purse 2 => fail)) SqL.new ?_ ?_ ?_ ?_ (fun _ _ => rfl) ?_ ?_
    · simp [diffs_len]; omega
    · simp [diffs_len]; omega
    · simp [diffs_len]; omega
    · simp [diffs_len]; omega
    · intro i x y z H3 Q' hx hy hz hs3 kq
      have hi : i < n.toNat := by have := (List.getElem?_eq_some_iff.mp hz).1; rwa [diffs_len] at this
      rw [diffs_get hi] at hz
      cases hz
      simp [show i < (n + 1).toNat by omega] at hx
      simp [show i + 1 < (n + 1).toNat by omega] at hy
      subst hx; subst hy
      (purse 16 => fail)
      exact kq _ (Same.refl _)
    · intro D2 H3 hs3 hD3 hn3
      exact k _ _ (by (purse 1 => fail)) (Same.free (by (purse 1 => fail)) hn3) hD3
end
end
section
local macro_rules | `(tactic| purse 99 => fail) => `(tactic| (first | ((with_reducible refine' u_differences ?rdA ?rdB ?rdC ?_); (case rdA => (purse 2 => fail)); (case rdB => (first | assumption | decide)); (case rdC => omega); intro dq H2 h2 dn dl) | ((with_reducible refine' u_some_period ?rdA ?rdB ?_); (case rdA => (purse 2 => fail)); (case rdB => (first | assumption | decide)); intro sp sL sR H2 h2 st sq sb sr)))
section
variable {P : Program} {w : World} {K : PySem.W.Frag} {mg : Str → Option Value} {base : Heap}
theorem ok_least_period {f : Addr} {fd : FuncData} (F : Fun K "least_period" "least_period" s_least_period f fd) (c_differences : Can P w K mg base 3 "differences" ["steps", "length"] (sp_differences K)) (c_some_period : Can P w K mg base 2 "some_period" ["steps"] (sp_some_period K)) (z_range : mg "range" = none) (z_sum : mg "sum" = none) :
    FnOk P w K mg base CX0 4 f fd ["steps"] (sp_least_period K) := by
  refine F.ok sc_least_period (fun vs H Q E h => sp_least_period_len h) (fun cdv A outer s H vs Q E hr h => ?_)
  obtain ⟨v, p, rfl, hP, hp, hb, k⟩ := h
  refine ⟨_, (pss_cons (ps_asg (pe_can c_some_period (hr.mono (by decide)) (by rfl) (pa_cons (pv 0) pa_nil)) (kpg_tup K (n := 2) (pgs_cons (pg_name (i := 1) sc_least_period.nd rfl (Or.inl rfl)) (pgs_cons (pg_name (i := 2) sc_least_period.nd rfl (Or.inl rfl)) pgs_nil)))) (pss_cons (ps_set (i := 3) sc_least_period.nd rfl (Or.inl rfl) (pe_can c_differences (hr.mono (by decide)) (by rfl) (pa_cons (pv 0) (pa_cons (pv 1) pa_nil)))) (pss_cons (ps_for PassesOwn.never rfl (pi_range2 (by rfl) z_range (pa_cons pe_int (pa_cons (pv 1) pa_nil))) (pg_name (i := 4) sc_least_period.nd rfl (Or.inl rfl)) (pss_one (ps_if (PW.pt (pw_and (pt_cmpR op_eq (pe_op op_mod (pv 1) (pv 4)) pe_int (nomark _)) (pw_and1 (pt_cmpR (keqD K hr.units) (pe_op op_cat (pe_slice (ksl_list K) (pv 3) (po_some (pv 4)) po_none) (pe_slice (ksl_list K) (pv 3) po_none (po_some (pv 4)))) (pv 3) (nomark _))))) (pss_one (ps_ret (pe_tup (pa_cons (pv 4) (pa_cons (pe_callB (ksum K) (by rfl) z_sum (by decide +kernel) (pa_cons (pe_slice (ksl_list K) (pv 3) po_none (po_some (pv 4))) pa_nil)) pa_nil))))) pss_nil))) (pss_one (ps_ret (pe_tup (pa_cons (pv 1) (pa_cons (pv 2) pa_nil)))))))), ?_⟩
  (purse 16 => fail)
  have eL : ((sL.toNat : Nat) : Int) = sL := by omega
  have qn : QP p.val ((sL.toNat : Nat) : Int) sR := by rw [eL]; exact sq
  generalize hnn : (sL - 1).toNat = nn
  refine fl_range (fun i σ' H' => Same H2 H' ∧ (∀ e : Nat, 0 < e → e < i + 1 → sL.toNat % e = 0 → (diffs p.val sL.toNat).drop e ++ (diffs p.val sL.toNat).take e ≠ diffs p.val sL.toNat) ∧ ∃ w, σ' = [some v, some (.int sL), some (.int sR), some (.ref dq), w]) ?_ ?_ ?_
  · exact ⟨Same.refl _, by intro e h1 h2; omega, _, rfl⟩
  · rintro i σ' H' hi ⟨hH, hno, w, rfl⟩
    have hl' : H' dq = some (.lst ((diffs p.val sL.toNat).map V.int)) := by (purse 3 => fail)
    have hlen := diffs_len p.val sL.toNat
    rw [show (1 : Int) + (i : Int) = ((i + 1 : Nat) : Int) by omega]
    (purse 16 => fail)
    · have hF := least_found (n := sL.toNat) (d := i + 1) (by omega) qn (by omega) (by omega) hc hno
      refine k _ _ _ _ (by (purse 1 => fail)) SqT.new ?_
      rw [diffs_take _ (by omega), diffs_sum]
      exact hF
    · refine ⟨by (purse 1 => fail), fun e h1 h2 h3 => ?_, _, rfl⟩
      rcases Nat.lt_or_ge e (i + 1) with h | h
      · exact hno e h1 h h3
      · rw [show e = i + 1 by omega]; exact hc
    · refine ⟨by (purse 1 => fail), fun e h1 h2 h3 => ?_, _, rfl⟩
      rcases Nat.lt_or_ge e (i + 1) with h | h
      · exact hno e h1 h h3
      · exfalso
        rw [show e = i + 1 by omega] at h3
        apply hc
        rw [← eL, ← Int.natCast_emod, h3]; rfl
  · rintro σ' H' ⟨hH, hno, w, rfl⟩
    (purse 16 => fail)
    have hlen := diffs_len p.val sL.toNat
    have hF := least_found (n := sL.toNat) (d := sL.toNat) (by omega) qn (by omega) (by omega) (by rw [List.drop_of_length_le (by omega), List.take_of_length_le (by omega)]; rfl) (fun e h1 h2 h3 => hno e h1 (by omega) h3)
    have e : sR = p.val ((sL.toNat : Nat) : Int) - p.val 0 := by have := qn 0; rw [Int.zero_add] at this; omega
    rw [← e, eL] at hF
    exact k _ sL sR _ (by (purse 1 => fail)) SqT.new hF
end
end
section
local macro_rules | `(tactic| purse 99 => fail) => `(tactic| (first | ((with_reducible refine' u_least_period ?rdA ?rdB ?rdC ?_); (case rdA => (purse 2 => fail)); (case rdB => (first | assumption | decide)); (case rdC => (first | assumption | omega | decide)); intro lt lP lR H2 h2 lst lpl) | ((with_reducible refine' u_need_pipeline ?rdA ?rdB ?_); (case rdA => (purse 2 => fail)); (case rdB => (first | assumption | decide)); intro H2 h2)))
section
variable {P : Program} {w : World} {K : PySem.W.Frag} {mg : Str → Option Value} {base : Heap}
theorem ok_period {f : Addr} {fd : FuncData} (F : Fun K "period" "period" s_period f fd) (c_least_period : Can P w K mg base 4 "least_period" ["steps"] (sp_least_period K)) (c_need_pipeline : Can P w K mg base 4 "need_pipeline" ["value"] (sp_need_pipeline K)) :
    FnOk P w K mg base CX0 5 f fd ["pipeline"] (sp_period K) := by
  refine F.ok sc_period (fun vs H Q E h => sp_period_len h) (fun cdv A outer s H vs Q E hr h => ?_)
  obtain ⟨v, p, rfl, hP, ok, k⟩ := h
  have pp := ok.pos
  have pb : p.prod ≤ 100000 := Int.le_trans ok.2.2 (by decide)
  refine ⟨_, (pss_cons (ps_expr (pe_can c_need_pipeline (hr.mono (by decide)) (by rfl) (pa_cons (pv 0) pa_nil))) (pss_one (ps_ret (pe_can c_least_period (hr.mono (by decide)) (by rfl) (pa_cons (pv 0) pa_nil))))), ?_⟩
  (purse 16 => fail)
  exact k _ _ _ _ (by (purse 1 => fail)) (by (purse 2 => fail)) lpl
end
end
section
local macro_rules | `(tactic| purse 99 => fail) => `(tactic| (first | ((with_reducible refine' u_value_at ?rdA ?rdB ?_); (case rdA => (purse 2 => fail)); (case rdB => (first | assumption | decide)); intro H2 h2) | ((with_reducible refine' u_least_period ?rdA ?rdB ?rdC ?_); (case rdA => (purse 2 => fail)); (case rdB => (first | assumption | decide)); (case rdC => (first | assumption | omega | decide)); intro lt lP lR H2 h2 lst lpl)))
section
variable {P : Program} {w : World} {K : PySem.W.Frag} {mg : Str → Option Value} {base : Heap}
theorem ok_scaled_drift {f : Addr} {fd : FuncData} (F : Fun K "scaled_drift" "scaled_drift" s_scaled_drift f fd) (c_value_at : Can P w K mg base 2 "value_at" ["pipeline", "x"] (sp_value_at K)) (c_least_period : Can P w K mg base 4 "least_period" ["steps"] (sp_least_period K)) (z_max : mg "max" = none) (z_min : mg "min" = none) (z_range : mg "range" = none) :
    FnOk P w K mg base CX0 5 f fd ["steps"] (sp_scaled_drift K) := by
  refine F.ok sc_scaled_drift (fun vs H Q E h => sp_scaled_drift_len h) (fun cdv A outer s H vs Q E hr h => ?_)
  obtain ⟨v, p, rfl, hP, pp, pb, k⟩ := h
  refine ⟨_, (pss_cons (ps_asg (pe_can c_least_period (hr.mono (by decide)) (by rfl) (pa_cons (pv 0) pa_nil)) (kpg_tup K (n := 2) (pgs_cons (pg_name (i := 1) sc_scaled_drift.nd rfl (Or.inr rfl)) (pgs_cons (pg_name (i := 2) sc_scaled_drift.nd rfl (Or.inr rfl)) pgs_nil)))) (pss_cons (ps_setLc (i := 3) (own := [("x", 4)]) (by rfl) sc_scaled_drift.nd rfl rfl (sw_true rfl rfl rfl (by decide +kernel)) (pi_range1 (by rfl) z_range (pa_cons (pv 1) pa_nil)) (blkOk_by (own := [("x", 4)]) (N := n_scaled_drift) (sc := defScope s_scaled_drift) (by decide +kernel)) (fun _ _ _ _ _ => (pg_name (i := 4) sc_scaled_drift.nd rfl (Or.inl rfl))) (fun _ _ _ _ _ => pts_nil) (fun _ _ _ _ _ => (pe_op op_sub (pe_op op_mul (pv 1) (pe_can c_value_at (hr.mono (by decide)) (by rfl) (pa_cons (pv 0) (pa_cons (pv 4) pa_nil)))) (pe_op op_mul (pv 2) (pv 4))))) (pss_one (ps_ret (pe_tup (pa_cons (pv 1) (pa_cons (pv 2) (pa_cons (pe_callB (kmin K) (by rfl) z_min (by decide +kernel) (pa_cons (pv 3) pa_nil)) (pa_cons (pe_callB (kmax K) (by rfl) z_max (by decide +kernel) (pa_cons (pv 3) pa_nil)) pa_nil))))))))), ?_⟩
  (purse 16 => fail)
  have P1 := lpl.pos
  have P2 := (lpl.bounds pp).1
  (purse 16 => fail)
  refine ll_range (fun (i : Nat) => .int (lP * p.val i - lR * i)) (by omega) (fun _ => rfl) ?_ ?_
  · intro i H' Q' hi hs kq
    (purse 16 => fail)
    exact qint (by rw [Int.zero_add]) (kq _ h2)
  · intro D H' hs hD hn
    have hD' : H' D = some (.lst ((scaled p.val lP lR).map V.int)) := by rw [hD]; unfold scaled; rw [List.map_map]; rfl
    (purse 16 => fail)
    refine r_minX (SqL.of hD') (scaled_ne P1) fun m hm => ?_
    (purse 16 => fail)
    refine r_maxX (SqL.of hD') (scaled_ne P1) fun m2 hm2 => ?_
    (purse 16 => fail)
    exact k _ _ _ _ _ _ (by (purse 1 => fail)) SqT.new lpl hm hm2
end
end
section
local macro_rules | `(tactic| purse 99 => fail) => `(tactic| (first | ((with_reducible refine' u_fraction ?rdA ?_); (case rdA => omega); intro fp H2 h2 f2) | ((with_reducible refine' u_scaled_drift ?rdA ?rdB ?rdC ?_); (case rdA => (purse 2 => fail)); (case rdB => (first | assumption | decide)); (case rdC => (first | assumption | omega | decide)); intro dt dP dR dlo dhi H2 h2 dst dpl dmn dmx) | ((with_reducible refine' u_need_pipeline ?rdA ?rdB ?_); (case rdA => (purse 2 => fail)); (case rdB => (first | assumption | decide)); intro H2 h2)))
section
variable {P : Program} {w : World} {K : PySem.W.Frag} {mg : Str → Option Value} {base : Heap}
theorem ok_drift {f : Addr} {fd : FuncData} (F : Fun K "drift" "drift" s_drift f fd) (c_fraction : Can P w K mg base 2 "fraction" ["top", "bottom"] (sp_fraction K)) (c_scaled_drift : Can P w K mg base 5 "scaled_drift" ["steps"] (sp_scaled_drift K)) (c_need_pipeline : Can P w K mg base 4 "need_pipeline" ["value"] (sp_need_pipeline K)) :
    FnOk P w K mg base CX0 6 f fd ["pipeline"] (sp_drift K) := by
  refine F.ok sc_drift (fun vs H Q E h => sp_drift_len h) (fun cdv A outer s H vs Q E hr h => ?_)
  obtain ⟨v, p, rfl, hP, ok, k⟩ := h
  have pp := ok.pos
  have pb : p.prod ≤ 100000 := Int.le_trans ok.2.2 (by decide)
  refine ⟨_, (pss_cons (ps_expr (pe_can c_need_pipeline (hr.mono (by decide)) (by rfl) (pa_cons (pv 0) pa_nil))) (pss_cons (ps_asg (pe_can c_scaled_drift (hr.mono (by decide)) (by rfl) (pa_cons (pv 0) pa_nil)) (kpg_tup K (n := 4) (pgs_cons (pg_name (i := 1) sc_drift.nd rfl (Or.inl rfl)) (pgs_cons (pg_name (i := 2) sc_drift.nd rfl (Or.inl rfl)) (pgs_cons (pg_name (i := 3) sc_drift.nd rfl (Or.inl rfl)) (pgs_cons (pg_name (i := 4) sc_drift.nd rfl (Or.inl rfl)) pgs_nil)))))) (pss_one (ps_ret (pe_tup (pa_cons (pe_can c_fraction (hr.mono (by decide)) (by rfl) (pa_cons (pv 3) (pa_cons (pv 1) pa_nil))) (pa_cons (pe_can c_fraction (hr.mono (by decide)) (by rfl) (pa_cons (pv 4) (pa_cons (pv 1) pa_nil))) pa_nil))))))), ?_⟩
  (purse 16 => fail)
  have P1 := dpl.pos
  have P2 := (dpl.bounds pp).1
  (purse 16 => fail)
  exact k _ _ _ _ _ _ (by (purse 1 => fail)) (by (purse 13 => fail)) dpl dmn dmx
end
end
section

section
variable {P : Program} {w : World} {K : PySem.W.Frag} {mg : Str → Option Value} {base : Heap}
theorem ok_step_first {f : Addr} {fd : FuncData} (F : Fun K "step_first" "step_first" s_step_first f fd)  :
    FnOk P w K mg base CX0 1 f fd ["step", "y"] (sp_step_first K) := by
  refine F.ok sc_step_first (fun vs H Q E h => sp_step_first_len h) (fun cdv A outer s H vs Q E hr h => ?_)
  obtain ⟨v, st, x, rfl, ⟨a, rfl, hS⟩, hp, k⟩ := h
  refine ⟨_, (pss_cons (ps_if (pt_cmpR op_eq (pe_ix (kix_tup K) (pv 0) pe_int (fun _ _ => rfl)) pe_str (nomark _)) (pss_cons (ps_asg (pv 0) (kpg_tup K (n := 4) (pgs_cons (pg_name (i := 2) sc_step_first.nd rfl (Or.inl rfl)) (pgs_cons (pg_name (i := 3) sc_step_first.nd rfl (Or.inl rfl)) (pgs_cons (pg_name (i := 4) sc_step_first.nd rfl (Or.inl rfl)) (pgs_cons (pg_name (i := 5) sc_step_first.nd rfl (Or.inl rfl)) pgs_nil)))))) (pss_one (ps_ret (pe_op op_fdiv (pe_op op_sub (pe_op op_sub (pe_op op_add (pe_op op_mul (pv 4) (pv 1)) (pv 3)) pe_int) (pv 5)) (pv 3))))) pss_nil) (pss_cons (ps_set (i := 4) sc_step_first.nd rfl (Or.inl rfl) (pe_ix (kix_tup K) (pv 0) pe_int (fun _ _ => rfl))) (pss_cons (ps_if (pt_cmpR op_eq (pe_op op_mod (pv 4) pe_int) pe_int (nomark _)) (pss_one (ps_ret (pe_op op_sub (pe_op op_mul (pv 4) (pv 1)) (pe_op op_fdiv (pv 4) pe_int)))) pss_nil) (pss_one (ps_ret (pe_op op_add (pe_op op_sub (pe_op op_mul (pv 4) (pv 1)) (pe_op op_fdiv (pv 4) pe_int)) (pe_op op_mod (pv 1) pe_int))))))), ?_⟩
  cases st with
  | sc ks m c =>
    obtain ⟨⟨k1, k2⟩, m1, m2⟩ := hp
    have hS2 : SqT K H a [.str "scale", .int ks, .int m, .int c] := hS
    clear hS
    (purse 16 => fail)
    exact k _ (Same.refl _)
  | ev m =>
    obtain ⟨m1, m2⟩ := hp
    (purse 16 => fail)
    · refine qint ?_ (k _ (Same.refl _))
      show _ = if _ then _ else _
      rw [if_pos hc]
    · refine qint ?_ (k _ (Same.refl _))
      show _ = if _ then _ else _
      rw [if_neg hc]
end
end
section
local macro_rules | `(tactic| purse 99 => fail) => `(tactic| (first | ((with_reducible refine' u_step_first ?rdA ?rdB ?_); (case rdA => (purse 2 => fail)); (case rdB => (first | assumption | decide)); intro H2 h2)))
section
variable {P : Program} {w : World} {K : PySem.W.Frag} {mg : Str → Option Value} {base : Heap}
theorem ok_first_of {f : Addr} {fd : FuncData} (F : Fun K "first_of" "first_of" s_first_of f fd) (c_step_first : Can P w K mg base 1 "step_first" ["step", "y"] (sp_step_first K)) :
    FnOk P w K mg base CX0 2 f fd ["steps", "y"] (sp_first_of K) := by
  refine F.ok sc_first_of (fun vs H Q E h => sp_first_of_len h) (fun cdv A outer s H vs Q E hr h => ?_)
  obtain ⟨v, p, y, rfl, hP, hp, k⟩ := h
  refine ⟨_, (pss_cons (ps_for PassesOwn.never rfl (kpi_tup K (kpe_revT K (pv 0))) (pg_name (i := 2) sc_first_of.nd rfl (Or.inl rfl)) (pss_one (ps_set (i := 1) sc_first_of.nd rfl (Or.inl rfl) (pe_can c_step_first (hr.mono (by decide)) (by rfl) (pa_cons (pv 2) (pa_cons (pv 1) pa_nil)))))) (pss_one (ps_ret (pv 1)))), ?_⟩
  (purse 16 => fail)
  obtain ⟨_, xs, e, hS, hx⟩ := pP2
  cases e
  (purse 16 => fail)
  have hp2 : ∀ s ∈ p.reverse, s.pos := fun s hs => hp s (List.mem_reverse.mp hs)
  refine fl_P (p := p.reverse) hS hx (fun i σ' H' => Same H2 H' ∧ ∃ w, σ' = [some v, some (.int (Pipe.back (p.reverse.take i) y)), w]) ⟨by (purse 1 => fail), _, rfl⟩ (fun _ _ _ h => .ofSame h.1) ?_ ?_
  · rintro i s v2 σ' H' hi hm hs ⟨hH, w, rfl⟩
    have ps := hp2 s hm
    (purse 16 => fail)
    exact ⟨by (purse 1 => fail), _, by rw [Pipe.back_take hi]; rfl⟩
  · rintro σ' H' ⟨hH, w, rfl⟩
    (purse 16 => fail)
    refine qint ?_ (k _ (by (purse 1 => fail)))
    rw [List.take_length]; rfl
end
end
section
local macro_rules | `(tactic| purse 99 => fail) => `(tactic| (first | ((with_reducible refine' u_first_of ?rdA ?rdB ?_); (case rdA => (purse 2 => fail)); (case rdB => (first | assumption | decide)); intro H2 h2)))
section
variable {P : Program} {w : World} {K : PySem.W.Frag} {mg : Str → Option Value} {base : Heap}
theorem ok_last_of {f : Addr} {fd : FuncData} (F : Fun K "last_of" "last_of" s_last_of f fd) (c_first_of : Can P w K mg base 2 "first_of" ["steps", "y"] (sp_first_of K)) :
    FnOk P w K mg base CX0 3 f fd ["steps", "y"] (sp_last_of K) := by
  refine F.ok sc_last_of (fun vs H Q E h => sp_last_of_len h) (fun cdv A outer s H vs Q E hr h => ?_)
  obtain ⟨v, p, y, rfl, hP, hp, k⟩ := h
  refine ⟨_, (pss_one (ps_ret (pe_op op_sub (pe_can c_first_of (hr.mono (by decide)) (by rfl) (pa_cons (pv 0) (pa_cons (pe_op op_add (pv 1) pe_int) pa_nil))) pe_int))), ?_⟩
  (purse 16 => fail)
  exact k _ (by (purse 1 => fail))
end
end
section
local macro_rules | `(tactic| purse 99 => fail) => `(tactic| (first | ((with_reducible refine' u_first_of ?rdA ?rdB ?_); (case rdA => (purse 2 => fail)); (case rdB => (first | assumption | decide)); intro H2 h2) | ((with_reducible refine' u_need_integer ?rdA ?_); (case rdA => (first | assumption | omega | (constructor <;> omega))); intro H2 h2) | ((with_reducible refine' u_need_pipeline ?rdA ?rdB ?_); (case rdA => (purse 2 => fail)); (case rdB => (first | assumption | decide)); intro H2 h2)))
section
variable {P : Program} {w : World} {K : PySem.W.Frag} {mg : Str → Option Value} {base : Heap}
theorem ok_first_at_least {f : Addr} {fd : FuncData} (F : Fun K "first_at_least" "first_at_least" s_first_at_least f fd) (c_first_of : Can P w K mg base 2 "first_of" ["steps", "y"] (sp_first_of K)) (c_need_integer : Can P w K mg base 2 "need_integer" ["value"] (sp_need_integer K)) (c_need_pipeline : Can P w K mg base 4 "need_pipeline" ["value"] (sp_need_pipeline K)) :
    FnOk P w K mg base CX0 5 f fd ["pipeline", "y"] (sp_first_at_least K) := by
  refine F.ok sc_first_at_least (fun vs H Q E h => sp_first_at_least_len h) (fun cdv A outer s H vs Q E hr h => ?_)
  obtain ⟨v, p, y, rfl, hP, ok, b, k⟩ := h
  have pp := ok.pos
  refine ⟨_, (pss_cons (ps_expr (pe_can c_need_pipeline (hr.mono (by decide)) (by rfl) (pa_cons (pv 0) pa_nil))) (pss_cons (ps_expr (pe_can c_need_integer (hr.mono (by decide)) (by rfl) (pa_cons (pv 1) pa_nil))) (pss_one (ps_ret (pe_can c_first_of (hr.mono (by decide)) (by rfl) (pa_cons (pv 0) (pa_cons (pv 1) pa_nil))))))), ?_⟩
  (purse 16 => fail)
  exact k _ (by (purse 1 => fail))
end
end
section
local macro_rules | `(tactic| purse 99 => fail) => `(tactic| (first | ((with_reducible refine' u_last_of ?rdA ?rdB ?_); (case rdA => (purse 2 => fail)); (case rdB => (first | assumption | decide)); intro H2 h2) | ((with_reducible refine' u_need_integer ?rdA ?_); (case rdA => (first | assumption | omega | (constructor <;> omega))); intro H2 h2) | ((with_reducible refine' u_need_pipeline ?rdA ?rdB ?_); (case rdA => (purse 2 => fail)); (case rdB => (first | assumption | decide)); intro H2 h2)))
section
variable {P : Program} {w : World} {K : PySem.W.Frag} {mg : Str → Option Value} {base : Heap}
theorem ok_last_at_most {f : Addr} {fd : FuncData} (F : Fun K "last_at_most" "last_at_most" s_last_at_most f fd) (c_last_of : Can P w K mg base 3 "last_of" ["steps", "y"] (sp_last_of K)) (c_need_integer : Can P w K mg base 2 "need_integer" ["value"] (sp_need_integer K)) (c_need_pipeline : Can P w K mg base 4 "need_pipeline" ["value"] (sp_need_pipeline K)) :
    FnOk P w K mg base CX0 5 f fd ["pipeline", "y"] (sp_last_at_most K) := by
  refine F.ok sc_last_at_most (fun vs H Q E h => sp_last_at_most_len h) (fun cdv A outer s H vs Q E hr h => ?_)
  obtain ⟨v, p, y, rfl, hP, ok, b, k⟩ := h
  have pp := ok.pos
  refine ⟨_, (pss_cons (ps_expr (pe_can c_need_pipeline (hr.mono (by decide)) (by rfl) (pa_cons (pv 0) pa_nil))) (pss_cons (ps_expr (pe_can c_need_integer (hr.mono (by decide)) (by rfl) (pa_cons (pv 1) pa_nil))) (pss_one (ps_ret (pe_can c_last_of (hr.mono (by decide)) (by rfl) (pa_cons (pv 0) (pa_cons (pv 1) pa_nil))))))), ?_⟩
  (purse 16 => fail)
  exact k _ (by (purse 1 => fail))
end
end
section
local macro_rules | `(tactic| purse 99 => fail) => `(tactic| (first | ((with_reducible refine' u_last_of ?rdA ?rdB ?_); (case rdA => (purse 2 => fail)); (case rdB => (first | assumption | decide)); intro H2 h2) | ((with_reducible refine' u_first_of ?rdA ?rdB ?_); (case rdA => (purse 2 => fail)); (case rdB => (first | assumption | decide)); intro H2 h2)))
section
variable {P : Program} {w : World} {K : PySem.W.Frag} {mg : Str → Option Value} {base : Heap}
theorem ok_interval_of {f : Addr} {fd : FuncData} (F : Fun K "interval_of" "interval_of" s_interval_of f fd) (c_last_of : Can P w K mg base 3 "last_of" ["steps", "y"] (sp_last_of K)) (c_first_of : Can P w K mg base 2 "first_of" ["steps", "y"] (sp_first_of K)) :
    FnOk P w K mg base CX0 4 f fd ["steps", "y"] (sp_interval_of K) := by
  refine F.ok sc_interval_of (fun vs H Q E h => sp_interval_of_len h) (fun cdv A outer s H vs Q E hr h => ?_)
  obtain ⟨v, p, y, rfl, hP, pp, k⟩ := h
  refine ⟨_, (pss_cons (ps_par (i := 2) (j := 3) (by rfl) sc_interval_of.nd rfl rfl (by decide) rfl rfl (pa_cons (pe_can c_first_of (hr.mono (by decide)) (by rfl) (pa_cons (pv 0) (pa_cons (pv 1) pa_nil))) (pa_cons (pe_can c_last_of (hr.mono (by decide)) (by rfl) (pa_cons (pv 0) (pa_cons (pv 1) pa_nil))) pa_nil)) (by rfl)) (pss_one (ps_ret (pe_ifExp (pt_cmpR op_le (pv 2) (pv 3) (nomark _)) (pe_tup (pa_cons (pv 2) (pa_cons (pv 3) pa_nil))) pe_non)))), ?_⟩
  (purse 16 => fail)
  · refine k _ _ (by (purse 1 => fail)) ?_
    rw [ivD, if_pos hc]
    (purse 13 => fail)
  · refine k _ _ (by (purse 1 => fail)) ?_
    rw [ivD, if_neg hc]
    exact .non
end
end
section
local macro_rules | `(tactic| purse 99 => fail) => `(tactic| (first | ((with_reducible refine' u_interval_of ?rdA ?rdB ?_); (case rdA => (purse 2 => fail)); (case rdB => (first | assumption | decide)); intro iv H2 h2 ivd) | ((with_reducible refine' u_need_integer ?rdA ?_); (case rdA => (first | assumption | omega | (constructor <;> omega))); intro H2 h2) | ((with_reducible refine' u_need_pipeline ?rdA ?rdB ?_); (case rdA => (purse 2 => fail)); (case rdB => (first | assumption | decide)); intro H2 h2)))
section
variable {P : Program} {w : World} {K : PySem.W.Frag} {mg : Str → Option Value} {base : Heap}
theorem ok_preimage {f : Addr} {fd : FuncData} (F : Fun K "preimage" "preimage" s_preimage f fd) (c_interval_of : Can P w K mg base 4 "interval_of" ["steps", "y"] (sp_interval_of K)) (c_need_integer : Can P w K mg base 2 "need_integer" ["value"] (sp_need_integer K)) (c_need_pipeline : Can P w K mg base 4 "need_pipeline" ["value"] (sp_need_pipeline K)) :
    FnOk P w K mg base CX0 5 f fd ["pipeline", "y"] (sp_preimage K) := by
  refine F.ok sc_preimage (fun vs H Q E h => sp_preimage_len h) (fun cdv A outer s H vs Q E hr h => ?_)
  obtain ⟨v, p, y, rfl, hP, ok, b, k⟩ := h
  have pp := ok.pos
  refine ⟨_, (pss_cons (ps_expr (pe_can c_need_pipeline (hr.mono (by decide)) (by rfl) (pa_cons (pv 0) pa_nil))) (pss_cons (ps_expr (pe_can c_need_integer (hr.mono (by decide)) (by rfl) (pa_cons (pv 1) pa_nil))) (pss_one (ps_ret (pe_can c_interval_of (hr.mono (by decide)) (by rfl) (pa_cons (pv 0) (pa_cons (pv 1) pa_nil))))))), ?_⟩
  (purse 16 => fail)
  exact k _ _ (by (purse 1 => fail)) (by (purse 13 => fail))
end
end
section
local macro_rules | `(tactic| purse 99 => fail) => `(tactic| (first | ((with_reducible refine' u_is_pipelineP ?rdA ?rdB ?_); (case rdA => (purse 2 => fail)); (case rdB => (first | assumption | decide)); intro H2 h2) | ((with_reducible refine' u_is_pipelineQ ?rdA ?_); (case rdA => (purse 2 => fail)); intro H2 h2)))
section
variable {P : Program} {w : World} {K : PySem.W.Frag} {mg : Str → Option Value} {base : Heap}
theorem ok_inverse_pipeline {f : Addr} {fd : FuncData} (F : Fun K "inverse_pipeline" "inverse_pipeline" s_inverse_pipeline f fd) (c_is_pipeline : Can P w K mg base 3 "is_pipeline" ["value"] (sp_is_pipeline K)) (z_tuple : mg "tuple" = none) :
    FnOk P w K mg base CX0 4 f fd ["pipeline", "last"] (sp_inverse_pipeline K) := by
  refine F.ok sc_inverse_pipeline (fun vs H Q E h => sp_inverse_pipeline_len h) (fun cdv A outer s H vs Q E hr h => ?_)
  obtain ⟨v, p, l, rfl, hP, ok, k⟩ := h
  refine ⟨_, (pss_cons (ps_set (i := 2) sc_inverse_pipeline.nd rfl (Or.inl rfl) (pe_lst pa_nil)) (pss_cons (ps_for PassesOwn.never rfl (kpi_tup K (kpe_revT K (pv 0))) (pg_name (i := 3) sc_inverse_pipeline.nd rfl (Or.inl rfl)) (pss_cons (ps_if (pt_cmpR op_eq (pe_ix (kix_tup K) (pv 3) pe_int (fun _ _ => rfl)) pe_str (nomark _)) (pss_cons (ps_if (pt_cmpR op_eq (pe_op op_mod (pe_ix (kix_tup K) (pv 3) pe_int (fun _ _ => rfl)) pe_int) pe_int (nomark _)) (pss_one (ps_ret pe_non)) pss_nil) (pss_one (ps_set (i := 3) sc_inverse_pipeline.nd rfl (Or.inl rfl) (pe_tup (pa_cons pe_str (pa_cons pe_int (pa_cons (pe_ix (kix_tup K) (pv 3) pe_int (fun _ _ => rfl)) (pa_cons (pe_op op_fdiv (pe_ix (kix_tup K) (pv 3) pe_int (fun _ _ => rfl)) pe_int) pa_nil)))))))) pss_nil) (pss_cons (ps_asg (pv 3) (kpg_tup K (n := 4) (pgs_cons (pg_name (i := 4) sc_inverse_pipeline.nd rfl (Or.inl rfl)) (pgs_cons (pg_name (i := 5) sc_inverse_pipeline.nd rfl (Or.inl rfl)) (pgs_cons (pg_name (i := 6) sc_inverse_pipeline.nd rfl (Or.inl rfl)) (pgs_cons (pg_name (i := 7) sc_inverse_pipeline.nd rfl (Or.inl rfl)) pgs_nil)))))) (pss_one (ps_expr (pe_bm PySem.F.plainAttrs_list PySem.F.slot_list_append PySem.F.type_list_append mt_append (pv 2) (pa_cons (pe_tup (pa_cons pe_str (pa_cons (pv 6) (pa_cons (pv 5) (pa_cons (pe_ifExp (pt_val (pv 1)) (pe_op op_sub (pe_op op_sub (pv 6) pe_int) (pv 7)) (pe_op op_sub (pe_op op_sub (pv 5) pe_int) (pv 7))) pa_nil))))) pa_nil))))))) (pss_one (ps_ret (pe_ifExp (pt_val (pe_can c_is_pipeline (hr.mono (by decide)) (by rfl) (pa_cons (pe_callTy (ktuple_of K) (by rfl) z_tuple (by decide +kernel) (pa_cons (pv 2) pa_nil)) pa_nil))) (pe_callTy (ktuple_of K) (by rfl) z_tuple (by decide +kernel) (pa_cons (pv 2) pa_nil)) pe_non))))), ?_⟩
  (purse 16 => fail)
  obtain ⟨_, xs, e, hS, hx⟩ := pP2
  cases e
  (purse 16 => fail)
  have hl := ok.1
  have pos2 : ∀ s ∈ p.reverse, s.ok := fun s hs => ok.2.1 s (List.mem_reverse.mp hs)
  refine fl_P (p := p.reverse) hS hx (fun i σ' H' => Same H H' ∧ TKeep K H2 H' ∧ ∃ (ys : List V) (q : Pipe) (w3 w4 w5 w6 w7 : Option V), H' pN = some (.lst ys) ∧ Paired (StepAt K H') ys q ∧ invL l (p.reverse.take i) = some q ∧ σ' = [some v, some (.bl l), some (.ref pN), w3, w4, w5, w6, w7])
    ⟨by (purse 1 => fail), .refl, [], [], _, _, _, _, _, by (purse 3 => fail), .nil, by rw [List.take_zero]; rfl, rfl⟩ (fun _ _ _ h => h.2.1) ?_ ?_
  · rintro i s v2 σ' H' hi hm hs ⟨hH, hT, ys, q, w3, w4, w5, w6, w7, hp', hy, hq, rfl⟩
    have sok := pos2 s hm
    have il : i < 6 := by have := (List.getElem?_eq_some_iff.mp hi).1; rw [List.length_reverse] at this; omega
    have ql : q.length ≤ 6 := by rw [invL_len hq, List.length_take]; omega
    have yl : ys.length ≤ 6 := by rw [Paired.len hy]; exact ql
    obtain ⟨a2, rfl, q2⟩ := hs
    cases s with
    | sc ks m c =>
      have q3 : SqT K H' a2 [.str "scale", .int ks, .int m, .int c] := q2
      clear q2
      obtain ⟨⟨k1, k2⟩, ⟨m1, m2⟩, c1, c2⟩ := sok
      cases l
      · (purse 16 => fail)
        exact ⟨by (purse 1 => fail), TKeep.upL (TKeep.up hT (by assumption)) (by (purse 3 => fail)), _, q ++ [.sc m ks (ks - 1 - c)], _, _, _, _, _, upd_same, Paired.snoc (Paired.mapP hy fun _ _ z => by (purse 2 => fail)) (by (purse 2 => fail)), by rw [invL_take hi, hq]; rfl, rfl⟩
      · (purse 16 => fail)
        exact ⟨by (purse 1 => fail), TKeep.upL (TKeep.up hT (by assumption)) (by (purse 3 => fail)), _, q ++ [.sc m ks (m - 1 - c)], _, _, _, _, _, upd_same, Paired.snoc (Paired.mapP hy fun _ _ z => by (purse 2 => fail)) (by (purse 2 => fail)), by rw [invL_take hi, hq]; rfl, rfl⟩
    | ev m =>
      have q3 : SqT K H' a2 [.str "even", .int m] := q2
      clear q2
      obtain ⟨m1, m2⟩ := sok
      by_cases hme : m % 2 = 0
      · have hno : invD l p = .none := by
          unfold invD Pipe.inv
          rw [invL_none hi (by simp only [Step.inv]; rw [if_pos hme])]
        (purse 16 => fail)
        exact k _ _ (by (purse 1 => fail)) (by rw [hno]; exact .non)
      · cases l
        · (purse 16 => fail)
          exact ⟨by (purse 1 => fail), TKeep.upL (TKeep.up (TKeep.up hT (by assumption)) (by assumption)) (by (purse 3 => fail)), _, q ++ [.sc m 1 (1 - 1 - m / 2)], _, _, _, _, _, upd_same, Paired.snoc (Paired.mapP hy fun _ _ z => by (purse 2 => fail)) (by (purse 2 => fail)), by rw [invL_take hi, hq]; simp only [Step.inv]; rw [if_neg hme]; rfl, rfl⟩
        · (purse 16 => fail)
          exact ⟨by (purse 1 => fail), TKeep.upL (TKeep.up (TKeep.up hT (by assumption)) (by assumption)) (by (purse 3 => fail)), _, q ++ [.sc m 1 (m - 1 - m / 2)], _, _, _, _, _, upd_same, Paired.snoc (Paired.mapP hy fun _ _ z => by (purse 2 => fail)) (by (purse 2 => fail)), by rw [invL_take hi, hq]; simp only [Step.inv]; rw [if_neg hme]; rfl, rfl⟩
  · rintro σ' H' ⟨hH, hT, ys, q, w3, w4, w5, w6, w7, hp', hy, hq, rfl⟩
    rw [List.take_length] at hq
    have hq2 : Pipe.inv l p = some q := hq
    (purse 16 => fail)
    have hPq : PipeAt K (upd H' pN (.tup ys)) (.ref pN) q := ⟨pN, ys, rfl, SqT.new, Paired.mapP hy fun _ _ z => by (purse 2 => fail)⟩
    refine u_is_pipelineQ hPq fun H3 h3 => ?_
    (purse 16 => fail)
    · refine k _ _ (by (purse 1 => fail)) ?_
      have hPq2 : PipeAt K (upd H3 pN (.tup ys)) (.ref pN) q := ⟨pN, ys, rfl, SqT.new, Paired.mapP hy fun _ _ z => by (purse 2 => fail)⟩
      unfold invD
      rw [hq2]
      simp only [if_pos hc]
      exact hPq2.dp
    · refine k _ _ (by (purse 1 => fail)) ?_
      unfold invD
      rw [hq2]
      simp only [hc]
      exact .non
end
end
section
local macro_rules | `(tactic| purse 99 => fail) => `(tactic| (first | ((with_reducible refine' u_inverse_pipeline ?rdA ?rdB ?_); (case rdA => (purse 2 => fail)); (case rdB => (first | assumption | decide)); intro ivv H2 h2 ivd) | ((with_reducible refine' u_need_pipeline ?rdA ?rdB ?_); (case rdA => (purse 2 => fail)); (case rdB => (first | assumption | decide)); intro H2 h2)))
section
variable {P : Program} {w : World} {K : PySem.W.Frag} {mg : Str → Option Value} {base : Heap}
theorem ok_first_inverse {f : Addr} {fd : FuncData} (F : Fun K "first_inverse" "first_inverse" s_first_inverse f fd) (c_inverse_pipeline : Can P w K mg base 4 "inverse_pipeline" ["pipeline", "last"] (sp_inverse_pipeline K)) (c_need_pipeline : Can P w K mg base 4 "need_pipeline" ["value"] (sp_need_pipeline K)) :
    FnOk P w K mg base CX0 5 f fd ["pipeline"] (sp_first_inverse K) := by
  refine F.ok sc_first_inverse (fun vs H Q E h => sp_first_inverse_len h) (fun cdv A outer s H vs Q E hr h => ?_)
  obtain ⟨v, p, rfl, hP, ok, k⟩ := h
  refine ⟨_, (pss_cons (ps_expr (pe_can c_need_pipeline (hr.mono (by decide)) (by rfl) (pa_cons (pv 0) pa_nil))) (pss_one (ps_ret (pe_can c_inverse_pipeline (hr.mono (by decide)) (by rfl) (pa_cons (pv 0) (pa_cons pe_bl pa_nil)))))), ?_⟩
  (purse 16 => fail)
  exact k _ _ (by (purse 1 => fail)) (by (purse 13 => fail))
end
end
section
local macro_rules | `(tactic| purse 99 => fail) => `(tactic| (first | ((with_reducible refine' u_value_at ?rdA ?rdB ?_); (case rdA => (purse 2 => fail)); (case rdB => (first | assumption | decide)); intro H2 h2) | ((with_reducible refine' u_some_period ?rdA ?rdB ?_); (case rdA => (purse 2 => fail)); (case rdB => (first | assumption | decide)); intro sp sL sR H2 h2 st sq sb sr) | ((with_reducible refine' u_need_pipeline ?rdA ?rdB ?_); (case rdA => (purse 2 => fail)); (case rdB => (first | assumption | decide)); intro H2 h2)))
section
variable {P : Program} {w : World} {K : PySem.W.Frag} {mg : Str → Option Value} {base : Heap}
theorem ok_undoes {f : Addr} {fd : FuncData} (F : Fun K "undoes" "undoes" s_undoes f fd) (c_value_at : Can P w K mg base 2 "value_at" ["pipeline", "x"] (sp_value_at K)) (c_some_period : Can P w K mg base 2 "some_period" ["steps"] (sp_some_period K)) (c_need_pipeline : Can P w K mg base 4 "need_pipeline" ["value"] (sp_need_pipeline K)) (z_all : mg "all" = none) (z_range : mg "range" = none) :
    FnOk P w K mg base CX0 5 f fd ["first", "second"] (sp_undoes K) := by
  refine F.ok sc_undoes (fun vs H Q E h => sp_undoes_len h) (fun cdv A outer s H vs Q E hr h => ?_)
  obtain ⟨v, w, p, q, rfl, hP, hQ, ok, ok', k⟩ := h
  have pp := ok.pos
  have pq := ok'.pos
  have l1 := ok.1
  have l2 := ok'.1
  have hPP : PipeAt K H v p := hP
  have hQQ : PipeAt K H w q := hQ
  obtain ⟨av, xv, rfl, _, _⟩ := hP
  obtain ⟨aw, xw, rfl, _, _⟩ := hQ
  have pqp : (q ++ p : Pipe).pos := fun s hs => by rcases List.mem_append.mp hs with h | h; exact pq s h; exact pp s h
  refine ⟨_, (pss_cons (ps_expr (pe_can c_need_pipeline (hr.mono (by decide)) (by rfl) (pa_cons (pv 0) pa_nil))) (pss_cons (ps_expr (pe_can c_need_pipeline (hr.mono (by decide)) (by rfl) (pa_cons (pv 1) pa_nil))) (pss_cons (ps_set (i := 2) sc_undoes.nd rfl (Or.inr rfl) (pe_op (kcatA K) (pv 1) (pv 0))) (pss_cons (ps_asg (pe_can c_some_period (hr.mono (by decide)) (by rfl) (pa_cons (pv 2) pa_nil)) (kpg_tup K (n := 2) (pgs_cons (pg_name (i := 3) sc_undoes.nd rfl (Or.inl rfl)) (pgs_cons (pg_name (i := 4) sc_undoes.nd rfl (Or.inl rfl)) pgs_nil)))) (pss_one (ps_ret (pe_and (pe_cmpR op_eq (pv 3) (pv 4) (nomark _)) (pe_one (pe_callB (kall K) (by rfl) z_all (by decide +kernel) (pa_cons (pe_lc (own := [("x", 5)]) (by rfl) sc_undoes.nd (pi_range1 (by rfl) z_range (pa_cons (pv 3) pa_nil)) (blkOk_by (own := [("x", 5)]) (N := n_undoes) (sc := defScope s_undoes) (by decide +kernel)) (fun _ _ _ _ _ => (pg_name (i := 5) sc_undoes.nd rfl (Or.inl rfl))) (fun _ _ _ _ _ => pts_nil) (fun _ _ _ _ _ => (pe_cmpR op_eq (pe_can c_value_at (hr.mono (by decide)) (by rfl) (pa_cons (pv 2) (pa_cons (pv 5) pa_nil))) (pv 5) (nomark _)))) pa_nil)))))))))), ?_⟩
  (purse 16 => fail)
  · have hL := sb.1
    have hm : (q ++ p : Pipe).prod ≤ 120 * 120 := by
      rw [Pipe.prod_app]
      exact Int.mul_le_mul ok'.2.2 ok.2.2 (by have := Pipe.prod_pos' pp; omega) (by decide)
    have hid := id_iff (f := Pipe.val (q ++ p)) (by omega) sq
    (purse 16 => fail)
    refine ll_range (fun (x : Nat) => .bl (decide (Pipe.val (q ++ p) x = x))) (by omega) (fun _ => rfl) ?_ ?_
    · intro i H' Q' hi hs kq
      (purse 16 => fail)
      have := kq _ h2
      rw [Int.zero_add]
      simpa using this
    · intro D H5 hs5 hD hn
      have hD' : H5 D = some (.lst (((List.range sL.toNat).map fun (x : Nat) => decide (Pipe.val (q ++ p) x = x)).map V.bl)) := by rw [hD, List.map_map]; rfl
      (purse 16 => fail)
      refine r_all (SqL.of hD') ?_
      refine k _ _ (by (purse 1 => fail)) ?_
      simp only [← Pipe.val_app]
      rw [hid]
      simp [hc]
  · refine k _ _ (by (purse 1 => fail)) ?_
    have hid := id_iff (f := Pipe.val (q ++ p)) (by omega) sq
    simp only [← Pipe.val_app]
    rw [hid]
    simp [hc]
end
end
section

section
variable {P : Program} {w : World} {K : PySem.W.Frag} {mg : Str → Option Value} {base : Heap}
theorem ok_search_order {f : Addr} {fd : FuncData} (F : Fun K "search_order" "search_order" s_search_order f fd) (z_range : mg "range" = none) :
    FnOk P w K mg base CX0 1 f fd ["count"] (sp_search_order K) := by
  refine F.ok sc_search_order (fun vs H Q E h => sp_search_order_len h) (fun cdv A outer s H vs Q E hr h => ?_)
  obtain ⟨n, rfl, hn, k⟩ := h
  refine ⟨_, (pss_cons (ps_set (i := 1) sc_search_order.nd rfl (Or.inl rfl) (pe_lst (pa_cons pe_int pa_nil))) (pss_cons (ps_for PassesOwn.never rfl (pi_range2 (by rfl) z_range (pa_cons pe_int (pa_cons (pe_op op_add (pv 0) pe_int) pa_nil))) (pg_name (i := 2) sc_search_order.nd rfl (Or.inl rfl)) (pss_one (ps_set (i := 1) sc_search_order.nd rfl (Or.inl rfl) (pe_op op_cat (pv 1) (pe_lst (pa_cons (pe_op op_sub pe_int (pv 2)) (pa_cons (pv 2) pa_nil))))))) (pss_one (ps_ret (pv 1))))), ?_⟩
  (purse 16 => fail)
  refine fl_range (fun i σ' H' => Same H H' ∧ ∃ a w, H' a = some (.lst ((ordL i).map V.int)) ∧ σ' = [some (.int n), some (.ref a), w]) ⟨by (purse 1 => fail), _, _, upd_same, rfl⟩ ?_ ?_
  · rintro i σ' H' hi ⟨hS, a, w, ha, rfl⟩
    have hl := ordL_len i
    (purse 16 => fail)
    refine ⟨by (purse 1 => fail), _, _, ?_, rfl⟩
    rw [upd_same, ordL, List.map_append]; rfl
  · rintro σ' H' ⟨hS, a, w, ha, rfl⟩
    (purse 16 => fail)
    refine k _ _ hS ?_
    rw [ha]
    congr 4
    omega
end
end
section
local macro_rules | `(tactic| purse 99 => fail) => `(tactic| (first | ((with_reducible refine' u_search_order ?rdA ?_); (case rdA => (first | assumption | omega)); intro oa H2 h2 oL) | ((with_reducible refine' u_differences ?rdA ?rdB ?rdC ?_); (case rdA => (purse 2 => fail)); (case rdB => (first | assumption | decide)); (case rdC => omega); intro dq H2 h2 dn dl) | ((with_reducible refine' u_least_period ?rdA ?rdB ?rdC ?_); (case rdA => (purse 2 => fail)); (case rdB => (first | assumption | decide)); (case rdC => (first | assumption | omega | decide)); intro lt lP lR H2 h2 lst lpl) | ((with_reducible refine' u_need_pipeline ?rdA ?rdB ?_); (case rdA => (purse 2 => fail)); (case rdB => (first | assumption | decide)); intro H2 h2)))
section
variable {P : Program} {w : World} {K : PySem.W.Frag} {mg : Str → Option Value} {base : Heap}
theorem ok_collision {f : Addr} {fd : FuncData} (F : Fun K "collision" "collision" s_collision f fd) (c_search_order : Can P w K mg base 1 "search_order" ["count"] (sp_search_order K)) (c_differences : Can P w K mg base 3 "differences" ["steps", "length"] (sp_differences K)) (c_least_period : Can P w K mg base 4 "least_period" ["steps"] (sp_least_period K)) (c_need_pipeline : Can P w K mg base 4 "need_pipeline" ["value"] (sp_need_pipeline K)) :
    FnOk P w K mg base CX0 5 f fd ["pipeline"] (sp_collision K) := by
  refine F.ok sc_collision (fun vs H Q E h => sp_collision_len h) (fun cdv A outer s H vs Q E hr h => ?_)
  obtain ⟨v, p, rfl, hP, ok, k⟩ := h
  have pp := ok.pos
  have pb : p.prod ≤ 100000 := Int.le_trans ok.2.2 (by decide)
  refine ⟨_, (pss_cons (ps_expr (pe_can c_need_pipeline (hr.mono (by decide)) (by rfl) (pa_cons (pv 0) pa_nil))) (pss_cons (ps_asg (pe_can c_least_period (hr.mono (by decide)) (by rfl) (pa_cons (pv 0) pa_nil)) (kpg_tup K (n := 2) (pgs_cons (pg_name (i := 1) sc_collision.nd rfl (Or.inl rfl)) (pgs_cons (pg_name (i := 2) sc_collision.nd rfl (Or.inl rfl)) pgs_nil)))) (pss_cons (ps_set (i := 3) sc_collision.nd rfl (Or.inl rfl) (pe_can c_differences (hr.mono (by decide)) (by rfl) (pa_cons (pv 0) (pa_cons (pv 1) pa_nil)))) (pss_cons (ps_for PassesOwn.never rfl (kpi_list K (pe_can c_search_order (hr.mono (by decide)) (by rfl) (pa_cons (pv 1) pa_nil))) (pg_name (i := 4) sc_collision.nd rfl (Or.inl rfl)) (pss_one (ps_if (pt_cmpR op_eq (pe_ix (kix_list K) (pv 3) (pe_op op_mod (pv 4) (pv 1)) (fun _ _ => rfl)) pe_int (nomark _)) (pss_one (ps_ret (pv 4))) pss_nil))) (pss_one (ps_ret pe_non)))))), ?_⟩
  (purse 16 => fail)
  have P1 := lpl.pos
  have P2 := (lpl.bounds pp).1
  (purse 16 => fail)
  refine fl_list (xs := (ordL lP.toNat).map V.int) (fun i σ' H' => Same H2 H' ∧ hitL p.val ((ordL lP.toNat).take i) = none ∧ ∃ w, σ' = [some v, some (.int lP), some (.int lR), some (.ref dq), w]) ⟨by (purse 1 => fail), by rw [List.take_zero]; rfl, _, rfl⟩ (fun i σ' H' _ h => by have h := h.1; (purse 2 => fail)) ?_ ?_
  · rintro i xv σ' H' hx ⟨hS, hn, w, rfl⟩
    rw [List.getElem?_map, Option.map_eq_some_iff] at hx
    obtain ⟨x, hx, rfl⟩ := hx
    have dl2 : _ = some (HO.lst (((List.range lP.toNat).map fun (x : Nat) => p.val ((x : Int) + 1) - p.val x).map V.int)) := dl
    clear dl
    have x0 := Int.emod_nonneg x (show lP ≠ 0 by omega)
    have x1 := Int.emod_lt_of_pos x P1
    have ex : (((x % lP).toNat : Nat) : Int) = x % lP := by omega
    have hda := diff_at lpl.qp x
    (purse 16 => fail)
    · rw [ex] at hc
      have := k lP lR H' (by (purse 1 => fail)) lpl
      rw [hit_at hx hn (hda.mp hc)] at this
      exact this
    · rw [ex] at hc
      exact ⟨by (purse 1 => fail), by rw [hit_take hx hn, if_neg (fun h => hc (hda.mpr h))], _, rfl⟩
  · rintro σ' H' ⟨hS, hn, w, rfl⟩
    rw [List.length_map, List.take_length] at hn
    (purse 16 => fail)
    have := k lP lR H' (by (purse 1 => fail)) lpl
    rw [hn] at this
    exact this
end
end
section
local macro_rules | `(tactic| purse 99 => fail) => `(tactic| (first | ((with_reducible refine' u_search_order ?rdA ?_); (case rdA => (first | assumption | omega)); intro oa H2 h2 oL) | ((with_reducible refine' u_value_at ?rdA ?rdB ?_); (case rdA => (purse 2 => fail)); (case rdB => (first | assumption | decide)); intro H2 h2) | ((with_reducible refine' u_least_period ?rdA ?rdB ?rdC ?_); (case rdA => (purse 2 => fail)); (case rdB => (first | assumption | decide)); (case rdC => (first | assumption | omega | decide)); intro lt lP lR H2 h2 lst lpl)))
section
variable {P : Program} {w : World} {K : PySem.W.Frag} {mg : Str → Option Value} {base : Heap}
theorem ok_differ_first {f : Addr} {fd : FuncData} (F : Fun K "differ_first" "differ_first" s_differ_first f fd) (c_search_order : Can P w K mg base 1 "search_order" ["count"] (sp_search_order K)) (c_value_at : Can P w K mg base 2 "value_at" ["pipeline", "x"] (sp_value_at K)) (c_least_period : Can P w K mg base 4 "least_period" ["steps"] (sp_least_period K)) :
    FnOk P w K mg base CX0 5 f fd ["first", "second"] (sp_differ_first K) := by
  refine F.ok sc_differ_first (fun vs H Q E h => sp_differ_first_len h) (fun cdv A outer s H vs Q E hr h => ?_)
  obtain ⟨v, w, p, q, rfl, hP, hQ, pp, pq, b1, b2, k⟩ := h
  have b3 : p.prod ≤ 100000 := by omega
  have b4 : q.prod ≤ 100000 := by omega
  refine ⟨_, (pss_cons (ps_set (i := 2) sc_differ_first.nd rfl (Or.inl rfl) (pe_op op_add (pe_ix (kix_tup K) (pe_can c_least_period (hr.mono (by decide)) (by rfl) (pa_cons (pv 0) pa_nil)) pe_int (fun _ _ => rfl)) (pe_ix (kix_tup K) (pe_can c_least_period (hr.mono (by decide)) (by rfl) (pa_cons (pv 1) pa_nil)) pe_int (fun _ _ => rfl)))) (pss_cons (ps_for PassesOwn.never rfl (kpi_list K (pe_can c_search_order (hr.mono (by decide)) (by rfl) (pa_cons (pv 2) pa_nil))) (pg_name (i := 3) sc_differ_first.nd rfl (Or.inl rfl)) (pss_one (ps_if (pt_cmpR op_ne (pe_can c_value_at (hr.mono (by decide)) (by rfl) (pa_cons (pv 0) (pa_cons (pv 3) pa_nil))) (pe_can c_value_at (hr.mono (by decide)) (by rfl) (pa_cons (pv 1) (pa_cons (pv 3) pa_nil))) (nomark _)) (pss_one (ps_ret (pv 3))) pss_nil))) (pss_one (ps_ret pe_non)))), ?_⟩
  (purse 16 => fail)
  rename_i t1 P1 R1 H1 h1 st1 pl1
  have u1 := pl1.pos
  have u2 := (pl1.bounds pp).1
  have u3 := lpl.pos
  have u4 := (lpl.bounds pq).1
  (purse 16 => fail)
  have hd := DifO.mk' pp pq pl1 lpl (n := (P1 + lP).toNat) (by omega)
  refine fl_list (xs := (ordL (P1 + lP).toNat).map V.int) (fun i σ' H' => Same H2 H' ∧ difL p.val q.val ((ordL (P1 + lP).toNat).take i) = none ∧ ∃ w3, σ' = [some v, some w, some (.int (P1 + lP)), w3]) ⟨by (purse 1 => fail), by rw [List.take_zero]; rfl, _, rfl⟩ (fun i σ' H' _ h => by have h := h.1; (purse 2 => fail)) ?_ ?_
  · rintro i xv σ' H' hx ⟨hS, hn, w3, rfl⟩
    rw [List.getElem?_map, Option.map_eq_some_iff] at hx
    obtain ⟨x, hx, rfl⟩ := hx
    (purse 16 => fail)
    · exact k (some x) _ (by (purse 1 => fail)) (by rw [← dif_at hx hn hc]; exact hd)
    · exact ⟨by (purse 1 => fail), by rw [dif_take hx hn, if_pos hc], _, rfl⟩
  · rintro σ' H' ⟨hS, hn, w3, rfl⟩
    rw [List.length_map, List.take_length] at hn
    (purse 16 => fail)
    exact k none _ (by (purse 1 => fail)) (by rw [← hn]; exact hd)
end
end
section
local macro_rules | `(tactic| purse 99 => fail) => `(tactic| (first | ((with_reducible refine' u_differ_first ?rdA ?rdB ?rdC ?rdD ?rdE ?rdF ?_); (case rdA => (purse 2 => fail)); (case rdB => (purse 2 => fail)); (case rdC => (first | assumption | decide)); (case rdD => (first | assumption | decide)); (case rdE => (first | assumption | omega | decide)); (case rdF => (first | assumption | omega | decide)); intro fd H2 h2 fdh) | ((with_reducible refine' u_need_pipeline ?rdA ?rdB ?_); (case rdA => (purse 2 => fail)); (case rdB => (first | assumption | decide)); intro H2 h2)))
section
variable {P : Program} {w : World} {K : PySem.W.Frag} {mg : Str → Option Value} {base : Heap}
theorem ok_equal {f : Addr} {fd : FuncData} (F : Fun K "equal" "equal" s_equal f fd) (c_differ_first : Can P w K mg base 5 "differ_first" ["first", "second"] (sp_differ_first K)) (c_need_pipeline : Can P w K mg base 4 "need_pipeline" ["value"] (sp_need_pipeline K)) :
    FnOk P w K mg base CX0 6 f fd ["first", "second"] (sp_equal K) := by
  refine F.ok sc_equal (fun vs H Q E h => sp_equal_len h) (fun cdv A outer s H vs Q E hr h => ?_)
  obtain ⟨v, w, p, q, rfl, hP, hQ, ok, ok', k⟩ := h
  have pp := ok.pos
  have pq := ok'.pos
  have b1 : p.prod ≤ 40000 := Int.le_trans ok.2.2 (by decide)
  have b2 : q.prod ≤ 40000 := Int.le_trans ok'.2.2 (by decide)
  refine ⟨_, (pss_cons (ps_expr (pe_can c_need_pipeline (hr.mono (by decide)) (by rfl) (pa_cons (pv 0) pa_nil))) (pss_cons (ps_expr (pe_can c_need_pipeline (hr.mono (by decide)) (by rfl) (pa_cons (pv 1) pa_nil))) (pss_one (ps_ret (pe_cmpR op_isN (pe_can c_differ_first (hr.mono (by decide)) (by rfl) (pa_cons (pv 0) (pa_cons (pv 1) pa_nil))) pe_non (nomark _)))))), ?_⟩
  (purse 16 => fail)
  refine k _ _ (by (purse 1 => fail)) ?_
  rw [optV_isN, Option.isNone_iff_eq_none]
  exact fdh.none_iff pp pq
end
end
section
local macro_rules | `(tactic| purse 99 => fail) => `(tactic| (first | ((with_reducible refine' u_differ_first ?rdA ?rdB ?rdC ?rdD ?rdE ?rdF ?_); (case rdA => (purse 2 => fail)); (case rdB => (purse 2 => fail)); (case rdC => (first | assumption | decide)); (case rdD => (first | assumption | decide)); (case rdE => (first | assumption | omega | decide)); (case rdF => (first | assumption | omega | decide)); intro fd H2 h2 fdh) | ((with_reducible refine' u_need_pipeline ?rdA ?rdB ?_); (case rdA => (purse 2 => fail)); (case rdB => (first | assumption | decide)); intro H2 h2)))
section
variable {P : Program} {w : World} {K : PySem.W.Frag} {mg : Str → Option Value} {base : Heap}
theorem ok_first_difference {f : Addr} {fd : FuncData} (F : Fun K "first_difference" "first_difference" s_first_difference f fd) (c_differ_first : Can P w K mg base 5 "differ_first" ["first", "second"] (sp_differ_first K)) (c_need_pipeline : Can P w K mg base 4 "need_pipeline" ["value"] (sp_need_pipeline K)) :
    FnOk P w K mg base CX0 6 f fd ["first", "second"] (sp_first_difference K) := by
  refine F.ok sc_first_difference (fun vs H Q E h => sp_first_difference_len h) (fun cdv A outer s H vs Q E hr h => ?_)
  obtain ⟨v, w, p, q, rfl, hP, hQ, ok, ok', k⟩ := h
  have pp := ok.pos
  have pq := ok'.pos
  have b1 : p.prod ≤ 40000 := Int.le_trans ok.2.2 (by decide)
  have b2 : q.prod ≤ 40000 := Int.le_trans ok'.2.2 (by decide)
  refine ⟨_, (pss_cons (ps_expr (pe_can c_need_pipeline (hr.mono (by decide)) (by rfl) (pa_cons (pv 0) pa_nil))) (pss_cons (ps_expr (pe_can c_need_pipeline (hr.mono (by decide)) (by rfl) (pa_cons (pv 1) pa_nil))) (pss_one (ps_ret (pe_can c_differ_first (hr.mono (by decide)) (by rfl) (pa_cons (pv 0) (pa_cons (pv 1) pa_nil))))))), ?_⟩
  (purse 16 => fail)
  exact k _ _ (by (purse 1 => fail)) fdh
end
end
section
local macro_rules | `(tactic| purse 99 => fail) => `(tactic| (first | ((with_reducible refine' u_value_at ?rdA ?rdB ?_); (case rdA => (purse 2 => fail)); (case rdB => (first | assumption | decide)); intro H2 h2) | ((with_reducible refine' u_greatest_divisor ?rdA ?rdB ?_); (case rdA => omega); (case rdB => omega); intro H2 h2) | ((with_reducible refine' u_least_period ?rdA ?rdB ?rdC ?_); (case rdA => (purse 2 => fail)); (case rdB => (first | assumption | decide)); (case rdC => (first | assumption | omega | decide)); intro lt lP lR H2 h2 lst lpl)))
section
variable {P : Program} {w : World} {K : PySem.W.Frag} {mg : Str → Option Value} {base : Heap}
theorem ok_common_gaps {f : Addr} {fd : FuncData} (F : Fun K "common_gaps" "common_gaps" s_common_gaps f fd) (c_value_at : Can P w K mg base 2 "value_at" ["pipeline", "x"] (sp_value_at K)) (c_greatest_divisor : Can P w K mg base 1 "greatest_divisor" ["a", "b"] (sp_greatest_divisor K)) (c_least_period : Can P w K mg base 4 "least_period" ["steps"] (sp_least_period K)) (z_range : mg "range" = none) :
    FnOk P w K mg base CX0 5 f fd ["first", "second"] (sp_common_gaps K) := by
  refine F.ok sc_common_gaps (fun vs H Q E h => sp_common_gaps_len h) (fun cdv A outer s H vs Q E hr h => ?_)
  obtain ⟨v, w, p, q, rfl, hP, hQ, pp, pq, b1, b2, gb, k⟩ := h
  have b3 : p.prod ≤ 100000 := by omega
  have b4 : q.prod ≤ 100000 := by omega
  refine ⟨_, (pss_cons (ps_par (i := 2) (j := 3) (by rfl) sc_common_gaps.nd rfl rfl (by decide) rfl rfl (pa_cons (pe_can c_least_period (hr.mono (by decide)) (by rfl) (pa_cons (pv 0) pa_nil)) (pa_cons (pe_can c_least_period (hr.mono (by decide)) (by rfl) (pa_cons (pv 1) pa_nil)) pa_nil)) (by rfl)) (pss_cons (ps_set (i := 4) sc_common_gaps.nd rfl (Or.inl rfl) (pe_op op_fdiv (pe_op op_mul (pe_ix (kix_tup K) (pv 2) pe_int (fun _ _ => rfl)) (pe_ix (kix_tup K) (pv 3) pe_int (fun _ _ => rfl))) (pe_can c_greatest_divisor (hr.mono (by decide)) (by rfl) (pa_cons (pe_ix (kix_tup K) (pv 2) pe_int (fun _ _ => rfl)) (pa_cons (pe_ix (kix_tup K) (pv 3) pe_int (fun _ _ => rfl)) pa_nil))))) (pss_cons (ps_set (i := 5) sc_common_gaps.nd rfl (Or.inl rfl) (pe_op op_sub (pe_op op_mul (pe_op op_fdiv (pv 4) (pe_ix (kix_tup K) (pv 2) pe_int (fun _ _ => rfl))) (pe_ix (kix_tup K) (pv 2) pe_int (fun _ _ => rfl))) (pe_op op_mul (pe_op op_fdiv (pv 4) (pe_ix (kix_tup K) (pv 3) pe_int (fun _ _ => rfl))) (pe_ix (kix_tup K) (pv 3) pe_int (fun _ _ => rfl))))) (pss_one (ps_ret (pe_tup (pa_cons (pv 4) (pa_cons (pv 5) (pa_cons (pe_lc (own := [("x", 6)]) (by rfl) sc_common_gaps.nd (pi_range1 (by rfl) z_range (pa_cons (pv 4) pa_nil)) (blkOk_by (own := [("x", 6)]) (N := n_common_gaps) (sc := defScope s_common_gaps) (by decide +kernel)) (fun _ _ _ _ _ => (pg_name (i := 6) sc_common_gaps.nd rfl (Or.inl rfl))) (fun _ _ _ _ _ => pts_nil) (fun _ _ _ _ _ => (pe_op op_sub (pe_can c_value_at (hr.mono (by decide)) (by rfl) (pa_cons (pv 0) (pa_cons (pv 6) pa_nil))) (pe_can c_value_at (hr.mono (by decide)) (by rfl) (pa_cons (pv 1) (pa_cons (pv 6) pa_nil)))))) pa_nil))))))))), ?_⟩
  (purse 16 => fail)
  rename_i t1 P1 R1 H1 h1 st1 pl1
  have u1 := pl1.pos
  have u2 := (pl1.bounds pp).1
  have u3 := lpl.pos
  have u4 := (lpl.bounds pq).1
  have v1 := (pl1.bounds pp).2
  have v2 := (lpl.bounds pq).2
  have x1 := pl1.rise_rises pp
  have x2 := lpl.rise_rises pq
  have y1 := Pipe.rises_pos pp
  have y2 := Pipe.rises_pos pq
  have gp := gcdI_pos (a := P1) u3
  have gl := gcdI_le (a := P1) u3
  obtain ⟨L, hL, L0, L1, L2, L3, L4, L5, L6, L7⟩ := lcm_facts u1 u3
  have m1 : P1 * lP ≤ 900 * 900 := Int.mul_le_mul (by omega) (by omega) (by omega) (by omega)
  have n1 : L / P1 * R1 ≤ q.prod * p.rises := Int.mul_le_mul (by omega) x1 (by omega) (by omega)
  have n2 : L / lP * lR ≤ p.prod * q.rises := Int.mul_le_mul (by omega) x2 (by omega) (by omega)
  have n3 : 0 ≤ L / P1 * R1 := Int.mul_nonneg (by omega) (by omega)
  have n4 : 0 ≤ L / lP * lR := Int.mul_nonneg (by omega) (by omega)
  obtain ⟨g1, g2⟩ := gb
  (purse 16 => fail)
  rw [← hL]
  (purse 16 => fail)
  have hq : QP (gapF p q) L (L / P1 * R1 - L / lP * lR) := by
    have a1 := pl1.qp.mul (L / P1)
    have a2 := lpl.qp.mul (L / lP)
    rw [L1] at a1
    rw [L2] at a2
    exact a1.sub a2
  refine ll_range (fun (x : Nat) => .int (gapF p q x)) (by omega) (fun _ => rfl) ?_ ?_
  · intro i H' Q' hi hs kq
    (purse 16 => fail)
    exact qint (by rw [Int.zero_add]; rfl) (kq _ (by (purse 1 => fail)))
  · intro D H5 hs5 hD hn
    have hD' : H5 D = some (.lst (((List.range L.toNat).map fun (x : Nat) => gapF p q x).map V.int)) := by rw [hD, List.map_map]; rfl
    (purse 16 => fail)
    exact k _ D L _ _ (by (purse 1 => fail)) SqT.new (by (purse 3 => fail)) hq L0 (by omega) (by omega) (by omega)
end
end
section
local macro_rules | `(tactic| purse 99 => fail) => `(tactic| (first | ((with_reducible refine' u_common_gaps ?rdA ?rdB ?rdC ?rdD ?rdE ?rdF ?rdG ?_); (case rdA => (purse 2 => fail)); (case rdB => (purse 2 => fail)); (case rdC => (first | assumption | decide)); (case rdD => (first | assumption | decide)); (case rdE => (first | assumption | omega | decide)); (case rdF => (first | assumption | omega | decide)); (case rdG => (first | assumption | decide)); intro cg cgl cL cC H2 h2 cgt cgh cq cL0 cL1 cC0 cC1) | ((with_reducible refine' u_need_pipeline ?rdA ?rdB ?_); (case rdA => (purse 2 => fail)); (case rdB => (first | assumption | decide)); intro H2 h2)))
section
variable {P : Program} {w : World} {K : PySem.W.Frag} {mg : Str → Option Value} {base : Heap}
theorem ok_first_above {f : Addr} {fd : FuncData} (F : Fun K "first_above" "first_above" s_first_above f fd) (c_common_gaps : Can P w K mg base 5 "common_gaps" ["first", "second"] (sp_common_gaps K)) (c_need_pipeline : Can P w K mg base 4 "need_pipeline" ["value"] (sp_need_pipeline K)) (z_enumerate : mg "enumerate" = none) :
    FnOk P w K mg base CX0 6 f fd ["first", "second"] (sp_first_above K) := by
  refine F.ok sc_first_above (fun vs H Q E h => sp_first_above_len h) (fun cdv A outer s H vs Q E hr h => ?_)
  obtain ⟨v, w, p, q, rfl, hP, hQ, ok, ok', gb, k⟩ := h
  have pp := ok.pos
  have pq := ok'.pos
  have b1 : p.prod ≤ 900 := Int.le_trans ok.2.2 (by decide)
  have b2 : q.prod ≤ 900 := Int.le_trans ok'.2.2 (by decide)
  refine ⟨_, (pss_cons (ps_expr (pe_can c_need_pipeline (hr.mono (by decide)) (by rfl) (pa_cons (pv 0) pa_nil))) (pss_cons (ps_expr (pe_can c_need_pipeline (hr.mono (by decide)) (by rfl) (pa_cons (pv 1) pa_nil))) (pss_cons (ps_asg (pe_can c_common_gaps (hr.mono (by decide)) (by rfl) (pa_cons (pv 0) (pa_cons (pv 1) pa_nil))) (kpg_tup K (n := 3) (pgs_cons (pg_name (i := 2) sc_first_above.nd rfl (Or.inl rfl)) (pgs_cons (pg_name (i := 3) sc_first_above.nd rfl (Or.inl rfl)) (pgs_cons (pg_name (i := 4) sc_first_above.nd rfl (Or.inl rfl)) pgs_nil))))) (pss_cons (ps_set (i := 5) sc_first_above.nd rfl (Or.inl rfl) pe_non) (pss_cons (ps_for PassesOwn.never rfl (kpi_enum K (by rfl) z_enumerate (pa_cons (pv 4) pa_nil)) (kpg_tup K (n := 2) (pgs_cons (pg_name (i := 6) sc_first_above.nd rfl (Or.inl rfl)) (pgs_cons (pg_name (i := 7) sc_first_above.nd rfl (Or.inl rfl)) pgs_nil))) (pss_cons (ps_set (i := 8) sc_first_above.nd rfl (Or.inl rfl) pe_non) (pss_cons (ps_if (pt_cmpR op_gt (pv 7) pe_int (nomark _)) (pss_one (ps_set (i := 8) sc_first_above.nd rfl (Or.inl rfl) pe_int)) (pss_one (ps_if (pt_cmpR op_gt (pv 3) pe_int (nomark _)) (pss_one (ps_set (i := 8) sc_first_above.nd rfl (Or.inl rfl) (pe_op op_add (pe_op op_fdiv (pe_op op_sub pe_int (pv 7)) (pv 3)) pe_int))) pss_nil))) (pss_one (ps_if (PW.pt (pw_and (pt_cmpR op_notN (pv 8) pe_non (nomark _)) (pw_and1 (PW.pt (pw_or (pt_cmpR op_isN (pv 5) pe_non (nomark _)) (pw_or1 (pt_cmpR op_lt (pe_op op_add (pv 6) (pe_op op_mul (pv 8) (pv 2))) (pv 5) (nomark _)))))))) (pss_one (ps_set (i := 5) sc_first_above.nd rfl (Or.inl rfl) (pe_op op_add (pv 6) (pe_op op_mul (pv 8) (pv 2))))) pss_nil))))) (pss_one (ps_ret (pv 5)))))))), ?_⟩
  (purse 16 => fail)
  refine fl_enum (xs := ((List.range cL.toNat).map fun (x : Nat) => gapF p q x).map V.int) (fun i σ' H' => Same H2 H' ∧ ∃ o w6 w7 w8, AbR (gapF p q) cL i o ∧ σ' = [some v, some w, some (.int cL), some (.int cC), some (.ref cgl), some (optV o), w6, w7, w8]) ⟨by (purse 1 => fail), none, _, _, _, AbR.zero cL0, rfl⟩ (fun i σ' H' _ h => by have h := h.1; (purse 2 => fail)) ?_ ?_
  · rintro i xv T σ' H' hx ⟨hS, o, w6, w7, w8, hab, rfl⟩ hT
    have hi : i < cL.toNat := by
      have := (List.getElem?_eq_some_iff.mp hx).1
      rw [List.length_map, List.length_map, List.length_range] at this
      exact this
    have hxv : xv = .int (gapF p q (i : Int)) := by
      rw [List.getElem?_map, List.getElem?_map, List.getElem?_range hi] at hx
      exact (Option.some.inj hx).symm
    subst hxv
    have hz := ab_zero (gap := gapF p q) (C := cC) cL0 cq (i := i)
    cases o with
    | none =>
      (purse 16 => fail)
      · rename_i hg _
        exact ⟨by (purse 1 => fail), some ((i : Int) + 0 * cL), _, _, _, hab.win (by omega) (by rw [Int.zero_mul, Int.add_zero]; assumption) hz (fun x h => by cases h), rfl⟩
      · obtain ⟨t0, t1, t2⟩ := ab_turn (gap := gapF p q) (C := cC) cL0 cq (i := i) (by omega) (by omega)
        exact ⟨by (purse 1 => fail), some ((i : Int) + ((0 - gapF p q i) / cC + 1) * cL), _, _, _, hab.win t0 t1 t2 (fun x h => by cases h), rfl⟩
      · exact ⟨by (purse 1 => fail), none, _, _, _, hab.skip (ab_none cL0 cq (by omega) (by omega)), rfl⟩
    | some x =>
      rw [show optV (some x) = V.int x from rfl]
      (purse 16 => fail)
      · exact ⟨by (purse 1 => fail), some ((i : Int) + 0 * cL), _, _, _, hab.win (by omega) (by rw [Int.zero_mul, Int.add_zero]; assumption) hz (fun y h => by cases h; assumption), rfl⟩
      · exact ⟨by (purse 1 => fail), some x, _, _, _, hab.keep hz (by omega), rfl⟩
      · obtain ⟨t0, t1, t2⟩ := ab_turn (gap := gapF p q) (C := cC) cL0 cq (i := i) (by omega) (by omega)
        exact ⟨by (purse 1 => fail), some ((i : Int) + ((0 - gapF p q i) / cC + 1) * cL), _, _, _, hab.win t0 t1 t2 (fun y h => by cases h; assumption), rfl⟩
      · obtain ⟨t0, t1, t2⟩ := ab_turn (gap := gapF p q) (C := cC) cL0 cq (i := i) (by omega) (by omega)
        exact ⟨by (purse 1 => fail), some x, _, _, _, hab.keep t2 (by omega), rfl⟩
      · exact ⟨by (purse 1 => fail), some x, _, _, _, hab.skip (ab_none cL0 cq (by omega) (by omega)), rfl⟩
  · rintro σ' H' ⟨hS, o, w6, w7, w8, hab, rfl⟩
    rw [List.length_map, List.length_map, List.length_range] at hab
    (purse 16 => fail)
    exact k o _ (by (purse 1 => fail)) (hab.done cL0 (by omega))
end
end
section

section
variable {P : Program} {w : World} {K : PySem.W.Frag} {mg : Str → Option Value} {base : Heap}
theorem ok_count_residue {f : Addr} {fd : FuncData} (F : Fun K "count_residue" "count_residue" s_count_residue f fd)  :
    FnOk P w K mg base CX0 1 f fd ["length", "residue", "low", "high"] (sp_count_residue K) := by
  refine F.ok sc_count_residue (fun vs H Q E h => sp_count_residue_len h) (fun cdv A outer s H vs Q E hr h => ?_)
  obtain ⟨P, r, s, e, rfl, hx, k⟩ := h
  refine ⟨_, (pss_one (ps_ret (pe_op op_sub (pe_op op_fdiv (pe_op op_sub (pv 3) (pv 1)) (pv 0)) (pe_op op_fdiv (pe_op op_sub (pe_op op_sub (pv 2) pe_int) (pv 1)) (pv 0))))), ?_⟩
  (purse 16 => fail)
  exact k _ (Same.refl _)
end
end
section
local macro_rules | `(tactic| purse 99 => fail) => `(tactic| (first | ((with_reducible refine' u_count_residue ?rdA ?_); (case rdA => omega); intro H2 h2) | ((with_reducible refine' u_common_gaps ?rdA ?rdB ?rdC ?rdD ?rdE ?rdF ?rdG ?_); (case rdA => (purse 2 => fail)); (case rdB => (purse 2 => fail)); (case rdC => (first | assumption | decide)); (case rdD => (first | assumption | decide)); (case rdE => (first | assumption | omega | decide)); (case rdF => (first | assumption | omega | decide)); (case rdG => (first | assumption | decide)); intro cg cgl cL cC H2 h2 cgt cgh cq cL0 cL1 cC0 cC1) | ((with_reducible refine' u_need_range ?rdA ?_); (case rdA => (first | assumption | omega | (refine ⟨?_, ?_, ?_⟩ <;> omega))); intro H2 h2) | ((with_reducible refine' u_need_pipeline ?rdA ?rdB ?_); (case rdA => (purse 2 => fail)); (case rdB => (first | assumption | decide)); intro H2 h2)))
section
variable {P : Program} {w : World} {K : PySem.W.Frag} {mg : Str → Option Value} {base : Heap}
theorem ok_count_equal {f : Addr} {fd : FuncData} (F : Fun K "count_equal" "count_equal" s_count_equal f fd) (c_count_residue : Can P w K mg base 1 "count_residue" ["length", "residue", "low", "high"] (sp_count_residue K)) (c_common_gaps : Can P w K mg base 5 "common_gaps" ["first", "second"] (sp_common_gaps K)) (c_need_range : Can P w K mg base 2 "need_range" ["low", "high"] (sp_need_range K)) (c_need_pipeline : Can P w K mg base 4 "need_pipeline" ["value"] (sp_need_pipeline K)) (z_enumerate : mg "enumerate" = none) (z_int : mg "int" = none) :
    FnOk P w K mg base CX0 6 f fd ["first", "second", "low", "high"] (sp_count_equal K) := by
  refine F.ok sc_count_equal (fun vs H Q E h => sp_count_equal_len h) (fun cdv A outer s H vs Q E hr h => ?_)
  obtain ⟨v, w, p, q, lo, hi, rfl, hP, hQ, ok, ok', gb, b, k⟩ := h
  have pp := ok.pos
  have pq := ok'.pos
  have b1 : p.prod ≤ 900 := Int.le_trans ok.2.2 (by decide)
  have b2 : q.prod ≤ 900 := Int.le_trans ok'.2.2 (by decide)
  have b3 := b.2.1
  refine ⟨_, (pss_cons (ps_expr (pe_can c_need_pipeline (hr.mono (by decide)) (by rfl) (pa_cons (pv 0) pa_nil))) (pss_cons (ps_expr (pe_can c_need_pipeline (hr.mono (by decide)) (by rfl) (pa_cons (pv 1) pa_nil))) (pss_cons (ps_expr (pe_can c_need_range (hr.mono (by decide)) (by rfl) (pa_cons (pv 2) (pa_cons (pv 3) pa_nil)))) (pss_cons (ps_asg (pe_can c_common_gaps (hr.mono (by decide)) (by rfl) (pa_cons (pv 0) (pa_cons (pv 1) pa_nil))) (kpg_tup K (n := 3) (pgs_cons (pg_name (i := 4) sc_count_equal.nd rfl (Or.inl rfl)) (pgs_cons (pg_name (i := 5) sc_count_equal.nd rfl (Or.inl rfl)) (pgs_cons (pg_name (i := 6) sc_count_equal.nd rfl (Or.inl rfl)) pgs_nil))))) (pss_cons (ps_set (i := 7) sc_count_equal.nd rfl (Or.inl rfl) pe_int) (pss_cons (ps_for PassesOwn.never rfl (kpi_enum K (by rfl) z_enumerate (pa_cons (pv 6) pa_nil)) (kpg_tup K (n := 2) (pgs_cons (pg_name (i := 8) sc_count_equal.nd rfl (Or.inl rfl)) (pgs_cons (pg_name (i := 9) sc_count_equal.nd rfl (Or.inl rfl)) pgs_nil))) (pss_cons (ps_if (PW.pt (pw_and (pt_cmpR op_eq (pv 5) pe_int (nomark _)) (pw_and1 (pt_cmpR op_eq (pv 9) pe_int (nomark _))))) (pss_one (ps_set (i := 7) sc_count_equal.nd rfl (Or.inl rfl) (pe_op op_add (pv 7) (pe_can c_count_residue (hr.mono (by decide)) (by rfl) (pa_cons (pv 4) (pa_cons (pv 8) (pa_cons (pv 2) (pa_cons (pv 3) pa_nil)))))))) pss_nil) (pss_one (ps_if (PW.pt (pw_and (pt_cmpR op_ne (pv 5) pe_int (nomark _)) (pw_and1 (pt_cmpR op_eq (pe_op op_modN (pv 9) (pv 5)) pe_int (nomark _))))) (pss_cons (ps_set (i := 10) sc_count_equal.nd rfl (Or.inl rfl) (pe_op op_sub (pv 8) (pe_op op_mul (pe_op op_fdivN (pv 9) (pv 5)) (pv 4)))) (pss_one (ps_set (i := 7) sc_count_equal.nd rfl (Or.inl rfl) (pe_op op_add (pv 7) (pe_callTy kint1 (by rfl) z_int (by decide +kernel) (pa_cons (pe_chain op_le op_le (pv 2) (pv 10) (pv 3)) pa_nil)))))) pss_nil)))) (pss_one (ps_ret (pv 7))))))))), ?_⟩
  (purse 16 => fail)
  refine fl_enum (xs := ((List.range cL.toNat).map fun (x : Nat) => gapF p q x).map V.int) (fun i σ' H' => Same H2 H' ∧ ∃ w8 w9 w10, σ' = [some v, some w, some (.int lo), some (.int hi), some (.int cL), some (.int cC), some (.ref cgl), some (.int (sumR i (fun r => if cC = 0 then (if gapF p q r = 0 then resC cL r lo hi else 0) else linC (gapF p q) cL cC lo hi r))), w8, w9, w10]) ⟨by (purse 1 => fail), _, _, _, rfl⟩ (fun i σ' H' _ h => by have h := h.1; (purse 2 => fail)) ?_ ?_
  · rintro i xv T σ' H' hx ⟨hS, w8, w9, w10, rfl⟩ hT
    have hil : i < cL.toNat := by
      have := (List.getElem?_eq_some_iff.mp hx).1
      rw [List.length_map, List.length_map, List.length_range] at this
      exact this
    have hxv : xv = .int (gapF p q (i : Int)) := by
      rw [List.getElem?_map, List.getElem?_map, List.getElem?_range hil] at hx
      exact (Option.some.inj hx).symm
    subst hxv
    (purse 16 => fail)
    · exact ⟨by (purse 1 => fail), _, _, _, by rw [sumR, if_pos (by assumption), if_pos (by assumption)]; rfl⟩
    · exact ⟨by (purse 1 => fail), _, _, _, by rw [sumR, if_pos (by assumption), if_neg (by assumption), Int.add_zero]; rfl⟩
    · rename_i hC _ hm
      by_cases hh : (i : Int) - (gapF p q i).fdiv cC * cL ≤ hi
      · have hl : linC (gapF p q) cL cC lo hi i = 1 := by unfold linC; rw [if_pos hm, if_pos ⟨hc, hh⟩]
        exact ⟨by (purse 1 => fail), _, _, _, by rw [sumR, if_neg hC, hl, decide_eq_true hh]; rfl⟩
      · have hl : linC (gapF p q) cL cC lo hi i = 0 := by unfold linC; rw [if_pos hm, if_neg (fun z => hh z.2)]
        exact ⟨by (purse 1 => fail), _, _, _, by rw [sumR, if_neg hC, hl, decide_eq_false hh]; rfl⟩
    · rename_i hC _ hm
      have hl : linC (gapF p q) cL cC lo hi i = 0 := by unfold linC; rw [if_pos hm, if_neg (fun z => hc z.1)]
      exact ⟨by (purse 1 => fail), _, _, _, by rw [sumR, if_neg hC, hl]; rfl⟩
    · rename_i hC _
      have hl : linC (gapF p q) cL cC lo hi i = 0 := by unfold linC; rw [if_neg hc]
      exact ⟨by (purse 1 => fail), _, _, _, by rw [sumR, if_neg hC, hl, Int.add_zero]; rfl⟩
  · rintro σ' H' ⟨hS, w8, w9, w10, rfl⟩
    rw [List.length_map, List.length_map, List.length_range]
    (purse 16 => fail)
    refine qint ?_ (k _ (by (purse 1 => fail)))
    have en : hi = lo + ((hi - lo + 1).toNat : Nat) - 1 := by omega
    by_cases hc : cC = 0
    · rw [show sumR cL.toNat (fun r => if cC = 0 then (if gapF p q r = 0 then resC cL r lo hi else 0) else linC (gapF p q) cL cC lo hi r) = sumR cL.toNat (fun r => if eqAt p q r = true then resC cL r lo (lo + ((hi - lo + 1).toNat : Nat) - 1) else 0) from ?_]
      · exact cnt_res cL0 (fun x => by unfold eqAt; have := cq.at x; rw [hc, Int.mul_zero, Int.add_zero] at this; rw [this]) lo _
      · apply sumR_congr
        intro j hj
        rw [if_pos hc, ← en]
        unfold eqAt
        simp only [decide_eq_true_eq]
    · rw [show sumR cL.toNat (fun r => if cC = 0 then (if gapF p q r = 0 then resC cL r lo hi else 0) else linC (gapF p q) cL cC lo hi r) = sumR cL.toNat (fun r => linC (gapF p q) cL cC lo (lo + ((hi - lo + 1).toNat : Nat) - 1) r) from ?_]
      · exact cnt_lin cL0 cq hc lo _
      · apply sumR_congr
        intro j hj
        rw [if_neg hc, ← en]
end
end
section
local macro_rules | `(tactic| purse 99 => fail) => `(tactic| (first | ((with_reducible refine' u_count_residue ?rdA ?_); (case rdA => omega); intro H2 h2) | ((with_reducible refine' u_value_at ?rdA ?rdB ?_); (case rdA => (purse 2 => fail)); (case rdB => (first | assumption | decide)); intro H2 h2) | ((with_reducible refine' u_last_of ?rdA ?rdB ?_); (case rdA => (purse 2 => fail)); (case rdB => (first | assumption | decide)); intro H2 h2) | ((with_reducible refine' u_first_of ?rdA ?rdB ?_); (case rdA => (purse 2 => fail)); (case rdB => (first | assumption | decide)); intro H2 h2) | ((with_reducible refine' u_least_period ?rdA ?rdB ?rdC ?_); (case rdA => (purse 2 => fail)); (case rdB => (first | assumption | decide)); (case rdC => (first | assumption | omega | decide)); intro lt lP lR H2 h2 lst lpl)))
section
variable {P : Program} {w : World} {K : PySem.W.Frag} {mg : Str → Option Value} {base : Heap}
theorem ok_count_steps {f : Addr} {fd : FuncData} (F : Fun K "count_steps" "count_steps" s_count_steps f fd) (c_count_residue : Can P w K mg base 1 "count_residue" ["length", "residue", "low", "high"] (sp_count_residue K)) (c_value_at : Can P w K mg base 2 "value_at" ["pipeline", "x"] (sp_value_at K)) (c_last_of : Can P w K mg base 3 "last_of" ["steps", "y"] (sp_last_of K)) (c_first_of : Can P w K mg base 2 "first_of" ["steps", "y"] (sp_first_of K)) (c_least_period : Can P w K mg base 4 "least_period" ["steps"] (sp_least_period K)) (z_range : mg "range" = none) (z_int : mg "int" = none) :
    FnOk P w K mg base CX0 5 f fd ["pipeline", "low", "high", "repeated"] (sp_count_steps K) := by
  refine F.ok sc_count_steps (fun vs H Q E h => sp_count_steps_len h) (fun cdv A outer s H vs Q E hr h => ?_)
  obtain ⟨v, p, lo, hi, rep, rfl, hP, pp, pb, hle, k⟩ := h
  rw [cntV_eq pp rep hle] at k
  refine ⟨_, (pss_cons (ps_set (i := 4) sc_count_steps.nd rfl (Or.inl rfl) (pe_ix (kix_tup K) (pe_can c_least_period (hr.mono (by decide)) (by rfl) (pa_cons (pv 0) pa_nil)) pe_int (fun _ _ => rfl))) (pss_cons (ps_par (i := 5) (j := 6) (by rfl) sc_count_steps.nd rfl rfl (by decide) rfl rfl (pa_cons (pe_can c_first_of (hr.mono (by decide)) (by rfl) (pa_cons (pv 0) (pa_cons (pv 1) pa_nil))) (pa_cons (pe_can c_last_of (hr.mono (by decide)) (by rfl) (pa_cons (pv 0) (pa_cons (pv 2) pa_nil))) pa_nil)) (by rfl)) (pss_cons (ps_if (pt_cmpR op_gt (pv 5) (pv 6) (nomark _)) (pss_one (ps_ret pe_int)) pss_nil) (pss_cons (ps_set (i := 7) sc_count_steps.nd rfl (Or.inl rfl) (pe_callTy kint1 (by rfl) z_int (by decide +kernel) (pa_cons (pe_not (pv 3)) pa_nil))) (pss_cons (ps_for PassesOwn.never rfl (pi_range1 (by rfl) z_range (pa_cons (pv 4) pa_nil)) (pg_name (i := 8) sc_count_steps.nd rfl (Or.inl rfl)) (pss_cons (ps_par (i := 9) (j := 10) (by rfl) sc_count_steps.nd rfl rfl (by decide) rfl rfl (pa_cons (pe_can c_value_at (hr.mono (by decide)) (by rfl) (pa_cons (pv 0) (pa_cons (pe_op op_sub (pv 8) pe_int) pa_nil))) (pa_cons (pe_can c_value_at (hr.mono (by decide)) (by rfl) (pa_cons (pv 0) (pa_cons (pv 8) pa_nil))) pa_nil)) (by rfl)) (pss_cons (ps_set (i := 11) sc_count_steps.nd rfl (Or.inl rfl) (pe_can c_value_at (hr.mono (by decide)) (by rfl) (pa_cons (pv 0) (pa_cons (pe_op op_add (pv 8) pe_int) pa_nil)))) (pss_cons (ps_set (i := 12) sc_count_steps.nd rfl (Or.inl rfl) (pe_ifExp (pt_val (pv 3)) (pe_and (pe_cmpR op_lt (pv 9) (pv 10) (nomark _)) (pe_one (pe_cmpR op_eq (pv 10) (pv 11) (nomark _)))) (pe_cmpR op_lt (pv 10) (pv 11) (nomark _)))) (pss_one (ps_if (PW.pt (pw_and (pt_val (pv 12)) (pw_and1 (pt_cmpR op_lt (pv 5) (pv 6) (nomark _))))) (pss_one (ps_set (i := 7) sc_count_steps.nd rfl (Or.inl rfl) (pe_op op_add (pv 7) (pe_can c_count_residue (hr.mono (by decide)) (by rfl) (pa_cons (pv 4) (pa_cons (pv 8) (pa_cons (pv 5) (pa_cons (pe_op op_sub (pv 6) pe_int) pa_nil)))))))) pss_nil)))))) (pss_one (ps_ret (pv 7)))))))), ?_⟩
  (purse 16 => fail)
  · rw [if_pos hc] at k
    exact k _ (by (purse 1 => fail))
  have P1 := lpl.pos
  have P2 := (lpl.bounds pp).1
  rw [if_neg (by omega)] at k
  (purse 16 => fail)
  have hn : 0 ≤ p.last hi - p.first lo := by omega
  refine fl_range (fun i σ' H' => Same H H' ∧ ∃ w8 w9 w10 w11 w12, σ' = [some v, some (.int lo), some (.int hi), some (.bl rep), some (.int lP), some (.int (p.first lo)), some (.int (p.last hi)), some (.int ((if rep = true then 0 else 1) + sumR i (fun r => if goodV p rep r = true then (if p.first lo < p.last hi then resC lP r (p.first lo) (p.last hi - 1) else 0) else 0))), w8, w9, w10, w11, w12]) ?_ ?_ ?_
  · exact ⟨by (purse 1 => fail), _, _, _, _, _, by cases rep <;> rfl⟩
  · rintro i σ' H' hi ⟨hS, w8, w9, w10, w11, w12, rfl⟩
    rw [Int.zero_add]
    cases rep
    · (purse 16 => fail)
      · have hg : goodV p false i = true := decide_eq_true (by assumption)
        exact ⟨by (purse 1 => fail), _, _, _, _, _, by rw [sumR, if_pos hg, if_pos hc, ← Int.add_assoc]; rfl⟩
      · have hg : goodV p false i = true := decide_eq_true (by assumption)
        exact ⟨by (purse 1 => fail), _, _, _, _, _, by rw [sumR, if_pos hg, if_neg hc, Int.add_zero]; rfl⟩
      · have hg : ¬ goodV p false i = true := fun h => hc (of_decide_eq_true h)
        exact ⟨by (purse 1 => fail), _, _, _, _, _, by rw [sumR, if_neg hg, Int.add_zero]; rfl⟩
    · (purse 16 => fail)
      · have hg : goodV p true i = true := Bool.and_eq_true_iff.mpr ⟨decide_eq_true (by assumption), decide_eq_true (by assumption)⟩
        exact ⟨by (purse 1 => fail), _, _, _, _, _, by rw [sumR, if_pos hg, if_pos hc, ← Int.add_assoc]; rfl⟩
      · have hg : goodV p true i = true := Bool.and_eq_true_iff.mpr ⟨decide_eq_true (by assumption), decide_eq_true (by assumption)⟩
        exact ⟨by (purse 1 => fail), _, _, _, _, _, by rw [sumR, if_pos hg, if_neg hc, Int.add_zero]; rfl⟩
      · have hg : ¬ goodV p true i = true := fun h => hc (of_decide_eq_true (Bool.and_eq_true_iff.mp h).2)
        exact ⟨by (purse 1 => fail), _, _, _, _, _, by rw [sumR, if_neg hg, Int.add_zero]; rfl⟩
      · have hg : ¬ goodV p true i = true := fun h => hc (of_decide_eq_true (Bool.and_eq_true_iff.mp h).1)
        exact ⟨by (purse 1 => fail), _, _, _, _, _, by rw [sumR, if_neg hg, Int.add_zero]; rfl⟩
  · rintro σ' H' ⟨hS, w8, w9, w10, w11, w12, rfl⟩
    (purse 16 => fail)
    refine qint ?_ (k _ (by (purse 1 => fail)))
    by_cases hlt : p.first lo < p.last hi
    · have e : sumR lP.toNat (fun r => if goodV p rep r = true then (if p.first lo < p.last hi then resC lP r (p.first lo) (p.last hi - 1) else 0) else 0) = sumR lP.toNat (fun r => if goodV p rep r = true then resC lP r (p.first lo) (p.first lo + ((p.last hi - p.first lo).toNat : Nat) - 1) else 0) := by
        apply sumR_congr
        intro j hj
        rw [if_pos hlt, show p.first lo + (((p.last hi - p.first lo).toNat : Nat) : Int) - 1 = p.last hi - 1 by omega]
      rw [e, cnt_res P1 (goodV_mod lpl.qp rep)]
    · have e : sumR lP.toNat (fun r => if goodV p rep r = true then (if p.first lo < p.last hi then resC lP r (p.first lo) (p.last hi - 1) else 0) else 0) = sumR lP.toNat (fun _ => 0) := by
        apply sumR_congr
        intro j hj
        rw [if_neg hlt]
        split <;> rfl
      rw [e, sumR_zero, show (p.last hi - p.first lo).toNat = 0 by omega]; rfl
end
end
section
local macro_rules | `(tactic| purse 99 => fail) => `(tactic| (first | ((with_reducible refine' u_count_steps ?rdA ?rdB ?rdC ?rdD ?_); (case rdA => (purse 2 => fail)); (case rdB => (first | assumption | decide)); (case rdC => (first | assumption | omega)); (case rdD => (first | assumption | omega)); intro H2 h2) | ((with_reducible refine' u_need_range ?rdA ?_); (case rdA => (first | assumption | omega | (refine ⟨?_, ?_, ?_⟩ <;> omega))); intro H2 h2) | ((with_reducible refine' u_need_pipeline ?rdA ?rdB ?_); (case rdA => (purse 2 => fail)); (case rdB => (first | assumption | decide)); intro H2 h2)))
section
variable {P : Program} {w : World} {K : PySem.W.Frag} {mg : Str → Option Value} {base : Heap}
theorem ok_count_values {f : Addr} {fd : FuncData} (F : Fun K "count_values" "count_values" s_count_values f fd) (c_count_steps : Can P w K mg base 5 "count_steps" ["pipeline", "low", "high", "repeated"] (sp_count_steps K)) (c_need_range : Can P w K mg base 2 "need_range" ["low", "high"] (sp_need_range K)) (c_need_pipeline : Can P w K mg base 4 "need_pipeline" ["value"] (sp_need_pipeline K)) :
    FnOk P w K mg base CX0 6 f fd ["pipeline", "low", "high"] (sp_count_values K) := by
  refine F.ok sc_count_values (fun vs H Q E h => sp_count_values_len h) (fun cdv A outer s H vs Q E hr h => ?_)
  obtain ⟨v, p, lo, hi, rfl, hP, ok, b, k⟩ := h
  have pp := ok.pos
  have pb : p.prod ≤ 100000 := Int.le_trans ok.2.2 (by decide)
  have b2 := b.2.1
  refine ⟨_, (pss_cons (ps_expr (pe_can c_need_pipeline (hr.mono (by decide)) (by rfl) (pa_cons (pv 0) pa_nil))) (pss_cons (ps_expr (pe_can c_need_range (hr.mono (by decide)) (by rfl) (pa_cons (pv 1) (pa_cons (pv 2) pa_nil)))) (pss_one (ps_ret (pe_can c_count_steps (hr.mono (by decide)) (by rfl) (pa_cons (pv 0) (pa_cons (pv 1) (pa_cons (pv 2) (pa_cons pe_bl pa_nil))))))))), ?_⟩
  (purse 16 => fail)
  exact k _ (by (purse 1 => fail))
end
end
section
local macro_rules | `(tactic| purse 99 => fail) => `(tactic| (first | ((with_reducible refine' u_count_steps ?rdA ?rdB ?rdC ?rdD ?_); (case rdA => (purse 2 => fail)); (case rdB => (first | assumption | decide)); (case rdC => (first | assumption | omega)); (case rdD => (first | assumption | omega)); intro H2 h2) | ((with_reducible refine' u_need_range ?rdA ?_); (case rdA => (first | assumption | omega | (refine ⟨?_, ?_, ?_⟩ <;> omega))); intro H2 h2) | ((with_reducible refine' u_need_pipeline ?rdA ?rdB ?_); (case rdA => (purse 2 => fail)); (case rdB => (first | assumption | decide)); intro H2 h2)))
section
variable {P : Program} {w : World} {K : PySem.W.Frag} {mg : Str → Option Value} {base : Heap}
theorem ok_count_repeated {f : Addr} {fd : FuncData} (F : Fun K "count_repeated" "count_repeated" s_count_repeated f fd) (c_count_steps : Can P w K mg base 5 "count_steps" ["pipeline", "low", "high", "repeated"] (sp_count_steps K)) (c_need_range : Can P w K mg base 2 "need_range" ["low", "high"] (sp_need_range K)) (c_need_pipeline : Can P w K mg base 4 "need_pipeline" ["value"] (sp_need_pipeline K)) :
    FnOk P w K mg base CX0 6 f fd ["pipeline", "low", "high"] (sp_count_repeated K) := by
  refine F.ok sc_count_repeated (fun vs H Q E h => sp_count_repeated_len h) (fun cdv A outer s H vs Q E hr h => ?_)
  obtain ⟨v, p, lo, hi, rfl, hP, ok, b, k⟩ := h
  have pp := ok.pos
  have pb : p.prod ≤ 100000 := Int.le_trans ok.2.2 (by decide)
  have b2 := b.2.1
  refine ⟨_, (pss_cons (ps_expr (pe_can c_need_pipeline (hr.mono (by decide)) (by rfl) (pa_cons (pv 0) pa_nil))) (pss_cons (ps_expr (pe_can c_need_range (hr.mono (by decide)) (by rfl) (pa_cons (pv 1) (pa_cons (pv 2) pa_nil)))) (pss_one (ps_ret (pe_can c_count_steps (hr.mono (by decide)) (by rfl) (pa_cons (pv 0) (pa_cons (pv 1) (pa_cons (pv 2) (pa_cons pe_bl pa_nil))))))))), ?_⟩
  (purse 16 => fail)
  exact k _ (by (purse 1 => fail))
end
end
section
local macro_rules | `(tactic| purse 99 => fail) => `(tactic| (first | ((with_reducible refine' u_scaled_drift ?rdA ?rdB ?rdC ?_); (case rdA => (purse 2 => fail)); (case rdB => (first | assumption | decide)); (case rdC => (first | assumption | omega | decide)); intro dt dP dR dlo dhi H2 h2 dst dpl dmn dmx) | ((with_reducible refine' u_need_pipeline ?rdA ?rdB ?_); (case rdA => (purse 2 => fail)); (case rdB => (first | assumption | decide)); intro H2 h2)))
section
variable {P : Program} {w : World} {K : PySem.W.Frag} {mg : Str → Option Value} {base : Heap}
theorem ok_as_single {f : Addr} {fd : FuncData} (F : Fun K "as_single" "as_single" s_as_single f fd) (c_scaled_drift : Can P w K mg base 5 "scaled_drift" ["steps"] (sp_scaled_drift K)) (c_need_pipeline : Can P w K mg base 4 "need_pipeline" ["value"] (sp_need_pipeline K)) :
    FnOk P w K mg base CX0 6 f fd ["pipeline"] (sp_as_single K) := by
  refine F.ok sc_as_single (fun vs H Q E h => sp_as_single_len h) (fun cdv A outer s H vs Q E hr h => ?_)
  obtain ⟨v, p, rfl, hP, ok, k⟩ := h
  have pp := ok.pos
  have pb : p.prod ≤ 100000 := Int.le_trans ok.2.2 (by decide)
  refine ⟨_, (pss_cons (ps_expr (pe_can c_need_pipeline (hr.mono (by decide)) (by rfl) (pa_cons (pv 0) pa_nil))) (pss_cons (ps_asg (pe_can c_scaled_drift (hr.mono (by decide)) (by rfl) (pa_cons (pv 0) pa_nil)) (kpg_tup K (n := 4) (pgs_cons (pg_name (i := 1) sc_as_single.nd rfl (Or.inl rfl)) (pgs_cons (pg_name (i := 2) sc_as_single.nd rfl (Or.inl rfl)) (pgs_cons (pg_name (i := 3) sc_as_single.nd rfl (Or.inl rfl)) (pgs_cons (pg_name (i := 4) sc_as_single.nd rfl (Or.inl rfl)) pgs_nil)))))) (pss_one (ps_ret (pe_ifExp (pt_cmpR op_le (pv 4) (pe_op op_sub (pe_op op_add (pv 3) (pv 1)) pe_int) (nomark _)) (pe_tup (pa_cons pe_str (pa_cons (pv 2) (pa_cons (pv 1) (pa_cons (pv 4) pa_nil))))) pe_non))))), ?_⟩
  (purse 16 => fail)
  · refine k _ _ _ _ _ _ (by (purse 1 => fail)) ?_ dpl dmn dmx
    rw [asD, if_pos (by omega)]
    (purse 13 => fail)
  · refine k _ _ _ _ _ _ (by (purse 1 => fail)) ?_ dpl dmn dmx
    rw [asD, if_neg (by omega)]
    exact .non
end
end
section
local macro_rules | `(tactic| purse 99 => fail) => `(tactic| (first | ((with_reducible refine' u_fraction ?rdA ?_); (case rdA => omega); intro fp H2 h2 f2) | ((with_reducible refine' u_scaled_drift ?rdA ?rdB ?rdC ?_); (case rdA => (purse 2 => fail)); (case rdB => (first | assumption | decide)); (case rdC => (first | assumption | omega | decide)); intro dt dP dR dlo dhi H2 h2 dst dpl dmn dmx) | ((with_reducible refine' u_need_pipeline ?rdA ?rdB ?_); (case rdA => (purse 2 => fail)); (case rdB => (first | assumption | decide)); intro H2 h2)))
section
variable {P : Program} {w : World} {K : PySem.W.Frag} {mg : Str → Option Value} {base : Heap}
theorem ok_spread {f : Addr} {fd : FuncData} (F : Fun K "spread" "spread" s_spread f fd) (c_fraction : Can P w K mg base 2 "fraction" ["top", "bottom"] (sp_fraction K)) (c_scaled_drift : Can P w K mg base 5 "scaled_drift" ["steps"] (sp_scaled_drift K)) (c_need_pipeline : Can P w K mg base 4 "need_pipeline" ["value"] (sp_need_pipeline K)) :
    FnOk P w K mg base CX0 6 f fd ["pipeline"] (sp_spread K) := by
  refine F.ok sc_spread (fun vs H Q E h => sp_spread_len h) (fun cdv A outer s H vs Q E hr h => ?_)
  obtain ⟨v, p, rfl, hP, ok, k⟩ := h
  have pp := ok.pos
  have pb : p.prod ≤ 100000 := Int.le_trans ok.2.2 (by decide)
  refine ⟨_, (pss_cons (ps_expr (pe_can c_need_pipeline (hr.mono (by decide)) (by rfl) (pa_cons (pv 0) pa_nil))) (pss_cons (ps_asg (pe_can c_scaled_drift (hr.mono (by decide)) (by rfl) (pa_cons (pv 0) pa_nil)) (kpg_tup K (n := 4) (pgs_cons (pg_name (i := 1) sc_spread.nd rfl (Or.inl rfl)) (pgs_cons (pg_name (i := 2) sc_spread.nd rfl (Or.inl rfl)) (pgs_cons (pg_name (i := 3) sc_spread.nd rfl (Or.inl rfl)) (pgs_cons (pg_name (i := 4) sc_spread.nd rfl (Or.inl rfl)) pgs_nil)))))) (pss_one (ps_ret (pe_can c_fraction (hr.mono (by decide)) (by rfl) (pa_cons (pe_op op_sub (pv 4) (pv 3)) (pa_cons (pv 1) pa_nil))))))), ?_⟩
  (purse 16 => fail)
  have P1 := dpl.pos
  have P2 := (dpl.bounds pp).1
  (purse 16 => fail)
  exact k _ _ _ _ _ _ (by (purse 1 => fail)) f2 dpl dmn dmx
end
end
section
local macro_rules | `(tactic| purse 99 => fail) => `(tactic| (first | ((with_reducible refine' u_is_integer ?rdA ?_); (case rdA => (purse 2 => fail)); intro H2 h2)))
section
variable {P : Program} {w : World} {K : PySem.W.Frag} {mg : Str → Option Value} {base : Heap}
theorem ok_is_sample {f : Addr} {fd : FuncData} (F : Fun K "is_sample" "is_sample" s_is_sample f fd) (c_is_integer : Can P w K mg base 1 "is_integer" ["value", "low", "high"] (sp_is_integer K)) (z_all : mg "all" = none) (z_len : mg "len" = none) (z_isinstance : mg "isinstance" = none) (z_tuple : mg "tuple" = none) (g_BOUND : KInt mg "BOUND" 1000000000000000000) :
    FnOk P w K mg base CX0 2 f fd ["value"] (sp_is_sample K) := by
  refine F.ok sc_is_sample (fun vs H Q E h => sp_is_sample_len h) (fun cdv A outer s H vs Q E hr h => ?_)
  obtain ⟨v, d, rfl, hd, k⟩ := h
  refine ⟨_, (pss_cons (ps_if (PW.pt (pw_or (pt_not (pt_val (pe_callB (kisi K) (by rfl) z_isinstance (by decide +kernel) (pa_cons (pv 0) (pa_cons (pe_bltn (v := .ty "tuple") (by rfl) z_tuple (by decide +kernel) rfl) pa_nil))))) (pw_or1 (pt_cmpR op_ne (pe_callB (klen K) (by rfl) z_len (by decide +kernel) (pa_cons (pv 0) pa_nil)) pe_int (nomark _))))) (pss_one (ps_ret pe_bl)) pss_nil) (pss_one (ps_ret (pe_callB (kall K) (by rfl) z_all (by decide +kernel) (pa_cons (pe_lc (own := [("part", 1)]) (by rfl) sc_is_sample.nd (kpi_tup K (pv 0)) (blkOk_by (own := [("part", 1)]) (N := n_is_sample) (sc := defScope s_is_sample) (by decide +kernel)) (fun _ _ _ _ _ => (pg_name (i := 1) sc_is_sample.nd rfl (Or.inl rfl))) (fun _ _ _ _ _ => pts_nil) (fun _ _ _ _ _ => (pe_can c_is_integer (hr.mono (by decide)) (by rfl) (pa_cons (pv 1) (pa_cons (pe_op op_sub pe_int (pe_k (by rfl) g_BOUND)) (pa_cons (pe_k (by rfl) g_BOUND) pa_nil)))))) pa_nil))))), ?_⟩
  cases d with
  | int i => (purse 16 => fail); exact k _ (Same.refl _)
  | none => (purse 16 => fail); exact k _ (Same.refl _)
  | bool b => (purse 16 => fail); exact k _ (Same.refl _)
  | str b => (purse 16 => fail); exact k _ (Same.refl _)
  | list b => (purse 16 => fail); exact k _ (Same.refl _)
  | dict b => cases hd
  | tuple ds =>
    have hd' := hd
    cases hd with
    | tup hS ha =>
      have hl := DpAll.len ha
      (purse 16 => fail)
      · exact qbl (by simp [isSampD]; intro h; exfalso; apply hc; congr 1; omega) (k _ (by (purse 1 => fail)))
      · have hc2 : ds.length = 2 := by injection hc with hc; omega
        refine ll_tup (ys := ds.map fun d => isIntD d (-1000000000000000000) 1000000000000000000) V.bl hS (by simp [hl]) (by rw [List.length_map]; omega) (fun _ => rfl) ?_ ?_
        · intro i x y H' Q' hx hy hs kq
          obtain ⟨d, hd, hdx⟩ := DpAll.get ha hx
          rw [List.getElem?_map, hd] at hy
          cases hy
          (purse 16 => fail)
          exact kq _ (by (purse 1 => fail))
        · intro D H1 hs hD hn
          (purse 16 => fail)
          refine r_all (SqL.of hD) ?_
          refine qbl ?_ (k _ (by (purse 1 => fail)))
          simp [isSampD, hc2, List.all_map]
          try rfl
end
end
section
local macro_rules | `(tactic| purse 99 => fail) => `(tactic| (first | ((with_reducible refine' u_is_sample ?rdA ?_); (case rdA => (purse 2 => fail)); intro H2 h2)))
section
variable {P : Program} {w : World} {K : PySem.W.Frag} {mg : Str → Option Value} {base : Heap}
theorem ok_need_samples {f : Addr} {fd : FuncData} (F : Fun K "need_samples" "need_samples" s_need_samples f fd) (c_is_sample : Can P w K mg base 2 "is_sample" ["value"] (sp_is_sample K)) (z_all : mg "all" = none) (z_len : mg "len" = none) (z_isinstance : mg "isinstance" = none) (z_tuple : mg "tuple" = none) (g_MAX_SAMPLES : KInt mg "MAX_SAMPLES" 20) :
    FnOk P w K mg base CX0 3 f fd ["value"] (sp_need_samples K) := by
  refine F.ok sc_need_samples (fun vs H Q E h => sp_need_samples_len h) (fun cdv A outer s H vs Q E hr h => ?_)
  obtain ⟨v, zs, rfl, hZ, o, c, k⟩ := h
  have hD : Dp K H v (.tuple (zs.map ptD)) := hZ.dp
  obtain ⟨a, xs, rfl, hS, hx⟩ := hZ
  have hl := Paired.len hx
  refine ⟨_, (pss_cons (ps_if (PW.pt (pw_or (pt_not (pt_val (pe_callB (kisi K) (by rfl) z_isinstance (by decide +kernel) (pa_cons (pv 0) (pa_cons (pe_bltn (v := .ty "tuple") (by rfl) z_tuple (by decide +kernel) rfl) pa_nil))))) (pw_or1 (pt_not (pt_chain op_le op_le pe_int (pe_callB (klen K) (by rfl) z_len (by decide +kernel) (pa_cons (pv 0) pa_nil)) (pe_k (by rfl) g_MAX_SAMPLES)))))) (pss_one ps_never) pss_nil) (pss_one (ps_if (pt_not (pt_val (pe_callB (kall K) (by rfl) z_all (by decide +kernel) (pa_cons (pe_lc (own := [("pair", 1)]) (by rfl) sc_need_samples.nd (kpi_tup K (pv 0)) (blkOk_by (own := [("pair", 1)]) (N := n_need_samples) (sc := defScope s_need_samples) (by decide +kernel)) (fun _ _ _ _ _ => (pg_name (i := 1) sc_need_samples.nd rfl (Or.inl rfl))) (fun _ _ _ _ _ => pts_nil) (fun _ _ _ _ _ => (pe_can c_is_sample (hr.mono (by decide)) (by rfl) (pa_cons (pv 1) pa_nil)))) pa_nil)))) (pss_one ps_never) pss_nil))), ?_⟩
  (purse 16 => fail)
  refine ll_tup (ys := zs.map fun _ => true) V.bl hS (by simp [hl]) (by rw [List.length_map]; omega) (fun _ => rfl) ?_ ?_
  · intro i x y H' Q' hx' hy hs kq
    obtain ⟨z, hz, hzx⟩ := Paired.get hx hx'
    rw [List.getElem?_map, hz] at hy
    cases hy
    have hdz := (PtAt.hs hs hzx).dp
    (purse 16 => fail)
    have e : isSampD (.tuple [.int z.1, .int z.2]) = true := (isSampD_pt z).mpr (c z (List.mem_of_getElem? hz))
    rw [e]
    exact kq _ (by (purse 1 => fail))
  · intro D H1 hs hD hn
    (purse 16 => fail)
    refine r_all (SqL.of hD) ?_
    (purse 16 => fail)
    · exfalso
      rw [List.all_map] at hc
      simp at hc
    · exact k _ (by (purse 1 => fail))
end
end
section
local macro_rules | `(tactic| purse 99 => fail) => `(tactic| (first | ((with_reducible refine' u_is_integer ?rdA ?_); (case rdA => (purse 2 => fail)); intro H2 h2)))
section
variable {P : Program} {w : World} {K : PySem.W.Frag} {mg : Str → Option Value} {base : Heap}
theorem ok_need_position {f : Addr} {fd : FuncData} (F : Fun K "need_position" "need_position" s_need_position f fd) (c_is_integer : Can P w K mg base 1 "is_integer" ["value", "low", "high"] (sp_is_integer K)) (z_len : mg "len" = none) :
    FnOk P w K mg base CX0 2 f fd ["pipeline", "value"] (sp_need_position K) := by
  refine F.ok sc_need_position (fun vs H Q E h => sp_need_position_len h) (fun cdv A outer s H vs Q E hr h => ?_)
  obtain ⟨a, p, i, rfl, hP, o, k⟩ := h
  refine ⟨_, (pss_one (ps_if (pt_not (pt_val (pe_can c_is_integer (hr.mono (by decide)) (by rfl) (pa_cons (pv 1) (pa_cons pe_int (pa_cons (pe_op op_sub (pe_callB (klen K) (by rfl) z_len (by decide +kernel) (pa_cons (pv 0) pa_nil)) pe_int) pa_nil)))))) (pss_one ps_never) pss_nil)), ?_⟩
  (purse 16 => fail)
  · exfalso
    simp [isIntD] at hc
    omega
  · exact k _ (by (purse 1 => fail))
end
end
section

section
variable {P : Program} {w : World} {K : PySem.W.Frag} {mg : Str → Option Value} {base : Heap}
theorem ok_replaced {f : Addr} {fd : FuncData} (F : Fun K "replaced" "replaced" s_replaced f fd)  :
    FnOk P w K mg base CX0 1 f fd ["pipeline", "position", "step"] (sp_replaced K) := by
  refine F.ok sc_replaced (fun vs H Q E h => sp_replaced_len h) (fun cdv A outer s H vs Q E hr h => ?_)
  obtain ⟨a, p, n, u, s, rfl, hP, hU, hl, k⟩ := h
  refine ⟨_, (pss_one (ps_ret (pe_op (kcatA K) (pe_op (kcatA K) (pe_slice (ksl_tupA K) (pv 0) po_none (po_some (pv 1))) (pe_tup (pa_cons (pv 2) pa_nil))) (pe_slice (ksl_tupA K) (pv 0) (po_some (pe_op op_add (pv 1) pe_int)) po_none)))), ?_⟩
  (purse 16 => fail)
  exact k _ _ (by (purse 1 => fail)) (by (purse 2 => fail))
end
end
section
local macro_rules | `(tactic| purse 99 => fail) => `(tactic| (first | ((with_reducible refine' u_interval_of ?rdA ?rdB ?_); (case rdA => (purse 2 => fail)); (case rdB => (first | assumption | decide)); intro iv H2 h2 ivd) | ((with_reducible refine' u_value_at ?rdA ?rdB ?_); (case rdA => (purse 2 => fail)); (case rdB => (first | assumption | decide)); intro H2 h2)))
section
variable {P : Program} {w : World} {K : PySem.W.Frag} {mg : Str → Option Value} {base : Heap}
theorem ok_offset_bounds {f : Addr} {fd : FuncData} (F : Fun K "offset_bounds" "offset_bounds" s_offset_bounds f fd) (c_interval_of : Can P w K mg base 4 "interval_of" ["steps", "y"] (sp_interval_of K)) (c_value_at : Can P w K mg base 2 "value_at" ["pipeline", "x"] (sp_value_at K)) (z_min : mg "min" = none) (z_max : mg "max" = none) (g_OFFSET_BOUND : KInt mg "OFFSET_BOUND" 1000000000) :
    FnOk P w K mg base CX0 5 f fd ["pipeline", "position", "k", "m", "samples"] (sp_offset_bounds K) := by
  refine F.ok sc_offset_bounds (fun vs H Q E h => sp_offset_bounds_len h) (fun cdv A outer s H vs Q E hr h => ?_)
  obtain ⟨a, p, n, k, m, w, zs, rfl, hP, hZ, pp, l6, l20, k12, m12, c⟩ := h
  obtain ⟨b, xs, rfl, hS, hx⟩ := hZ
  have hxl := Paired.len hx
  have pa : Pipe.pos (p.take n) := fun s hs => pp s (List.mem_of_mem_take hs)
  have pd : Pipe.pos (p.drop (n + 1)) := fun s hs => pp s (List.mem_of_mem_drop hs)
  refine ⟨_, (pss_cons (ps_par (i := 5) (j := 6) (by rfl) sc_offset_bounds.nd rfl rfl (by decide) rfl rfl (pa_cons (pe_op op_sub pe_int (pe_k (by rfl) g_OFFSET_BOUND)) (pa_cons (pe_k (by rfl) g_OFFSET_BOUND) pa_nil)) (by rfl)) (pss_cons (ps_for PassesOwn.never rfl (kpi_tup K (pv 4)) (kpg_tup K (n := 2) (pgs_cons (pg_name (i := 7) sc_offset_bounds.nd rfl (Or.inl rfl)) (pgs_cons (pg_name (i := 8) sc_offset_bounds.nd rfl (Or.inl rfl)) pgs_nil))) (pss_cons (ps_set (i := 9) sc_offset_bounds.nd rfl (Or.inl rfl) (pe_can c_value_at (hr.mono (by decide)) (by rfl) (pa_cons (pe_slice (ksl_tupA K) (pv 0) po_none (po_some (pv 1))) (pa_cons (pv 7) pa_nil)))) (pss_cons (ps_set (i := 10) sc_offset_bounds.nd rfl (Or.inl rfl) (pe_can c_interval_of (hr.mono (by decide)) (by rfl) (pa_cons (pe_slice (ksl_tupA K) (pv 0) (po_some (pe_op op_add (pv 1) pe_int)) po_none) (pa_cons (pv 8) pa_nil)))) (pss_cons (ps_if (pt_cmpR op_isN (pv 10) pe_non (nomark _)) (pss_one (ps_ret pe_non)) pss_nil) (pss_cons (ps_set (i := 5) sc_offset_bounds.nd rfl (Or.inl rfl) (pe_callB kmax2 (by rfl) z_max (by decide +kernel) (pa_cons (pv 5) (pa_cons (pe_op op_sub (pe_op op_mul (pv 3) (pe_ix (kix_tup K) (pv 10) pe_int (fun _ _ => rfl))) (pe_op op_mul (pv 2) (pv 9))) pa_nil)))) (pss_one (ps_set (i := 6) sc_offset_bounds.nd rfl (Or.inl rfl) (pe_callB kmin2 (by rfl) z_min (by decide +kernel) (pa_cons (pv 6) (pa_cons (pe_op op_sub (pe_op op_sub (pe_op op_add (pe_op op_mul (pv 3) (pe_ix (kix_tup K) (pv 10) pe_int (fun _ _ => rfl))) (pv 3)) pe_int) (pe_op op_mul (pv 2) (pv 9))) pa_nil)))))))))) (pss_one (ps_ret (pe_ifExp (pt_cmpR op_le (pv 5) (pv 6) (nomark _)) (pe_tup (pa_cons (pv 5) (pa_cons (pv 6) pa_nil))) pe_non))))), ?_⟩
  (purse 16 => fail)
  refine fl_tup (a := b) (xs := xs) (fun i σ' H' => Same H H' ∧ ∃ l u, obL (p.take n) (p.drop (n + 1)) k m (zs.take i) = Option.some (l, u) ∧ ∃ w1 w2 w3 w4, σ' = [some (.ref a), some (.int (n : Int)), some (.int k), some (.int m), some (.ref b), some (.int l), some (.int u), w1, w2, w3, w4]) ⟨by (purse 1 => fail), _, _, rfl, _, _, _, _, rfl⟩ ?_ ?_ ?_
  · rintro i σ' H' _ ⟨hs, _⟩
    exact SqT.same hs hS
  · rintro i x σ' H' hxi ⟨hs, l, u, hob, w1, w2, w3, w4, rfl⟩
    obtain ⟨z, ez, c1, rfl, hz⟩ := Paired.get hx hxi
    have hz' := SqT.same hs hz
    (purse 16 => fail)
    · subst hc
      have hbad := (iv_non ivd).mp rfl
      exact c _ _ (by (purse 1 => fail)) (by rw [obB_bad ez (by omega)]; exact .non)
    · obtain ⟨hl, ci, rfl, hsi⟩ := ivD_at ivd hc
      (purse 16 => fail)
      exact ⟨by (purse 1 => fail), _, _, obL_yes ez hob hl, _, _, _, _, rfl⟩
  · rintro σ' H' ⟨hs, l, u, hob, w1, w2, w3, w4, rfl⟩
    rw [hxl, List.take_length] at hob
    (purse 16 => fail)
    · exact c _ _ (by (purse 1 => fail)) (by rw [obB_some hob hc]; exact .tup SqT.new (.cons (.int _) (.cons (.int _) .nil)))
    · exact c _ _ (by (purse 1 => fail)) (by rw [obB_none hob hc]; exact .non)
end
end
section
local macro_rules | `(tactic| purse 99 => fail) => `(tactic| (first | ((with_reducible refine' u_is_pipelineP ?rdA ?rdB ?_); (case rdA => (purse 2 => fail)); (case rdB => (first | assumption | decide)); intro H2 h2) | ((with_reducible refine' u_is_pipelineQ ?rdA ?_); (case rdA => (purse 2 => fail)); intro H2 h2) | ((with_reducible refine' u_replaced ?rdA ?rdB ?rdC ?_); (case rdA => (purse 2 => fail)); (case rdB => (purse 2 => fail)); (case rdC => (first | assumption | omega | decide)); intro rpc H2 h2 rpP) | ((with_reducible refine' u_offset_bounds ?rdA ?rdB ?rdC ?rdD ?rdE ?rdF ?rdG ?_); (case rdA => (purse 2 => fail)); (case rdB => (purse 2 => fail)); (case rdC => (first | assumption | decide)); (case rdD => (first | assumption | omega | decide)); (case rdE => (first | assumption | omega | decide)); (case rdF => (first | assumption | omega | decide)); (case rdG => (first | assumption | omega | decide)); intro ob H2 h2 obd) | ((with_reducible refine' u_need_samples ?rdA ?rdB ?rdC ?_); (case rdA => (purse 2 => fail)); (case rdB => (first | assumption | omega | decide)); (case rdC => (first | assumption | decide)); intro H2 h2) | ((with_reducible refine' u_need_position ?rdA ?rdB ?_); (case rdA => (purse 2 => fail)); (case rdB => (first | assumption | omega | decide)); intro H2 h2) | ((with_reducible refine' u_need_pipeline ?rdA ?rdB ?_); (case rdA => (purse 2 => fail)); (case rdB => (first | assumption | decide)); intro H2 h2)))
section
variable {P : Program} {w : World} {K : PySem.W.Frag} {mg : Str → Option Value} {base : Heap}
theorem ok_hidden_steps {f : Addr} {fd : FuncData} (F : Fun K "hidden_steps" "hidden_steps" s_hidden_steps f fd) (c_is_pipeline : Can P w K mg base 3 "is_pipeline" ["value"] (sp_is_pipeline K)) (c_replaced : Can P w K mg base 1 "replaced" ["pipeline", "position", "step"] (sp_replaced K)) (c_offset_bounds : Can P w K mg base 5 "offset_bounds" ["pipeline", "position", "k", "m", "samples"] (sp_offset_bounds K)) (c_need_samples : Can P w K mg base 3 "need_samples" ["value"] (sp_need_samples K)) (c_need_position : Can P w K mg base 2 "need_position" ["pipeline", "value"] (sp_need_position K)) (c_need_pipeline : Can P w K mg base 4 "need_pipeline" ["value"] (sp_need_pipeline K)) (z_range : mg "range" = none) (g_MOST : KInt mg "MOST" 12) :
    FnOk P w K mg base CX0 6 f fd ["pipeline", "position", "samples"] (sp_hidden_steps K) := by
  refine F.ok sc_hidden_steps (fun vs H Q E h => sp_hidden_steps_len h) (fun cdv A outer s H vs Q E hr h => ?_)
  obtain ⟨a, p, n, w, zs, rfl, hP, hZ, ok, hn, hzl, hzo, c⟩ := h
  have pp := ok.pos
  have l6 := ok.1
  have l20 := hzl.2
  obtain ⟨sw, rfl⟩ := hZ.ref
  refine ⟨_, (pss_cons (ps_expr (pe_can c_need_pipeline (hr.mono (by decide)) (by rfl) (pa_cons (pv 0) pa_nil))) (pss_cons (ps_expr (pe_can c_need_position (hr.mono (by decide)) (by rfl) (pa_cons (pv 0) (pa_cons (pv 1) pa_nil)))) (pss_cons (ps_expr (pe_can c_need_samples (hr.mono (by decide)) (by rfl) (pa_cons (pv 2) pa_nil))) (pss_cons (ps_set (i := 3) sc_hidden_steps.nd rfl (Or.inl rfl) (pe_lst pa_nil)) (pss_cons (ps_for PassesOwn.never rfl (pi_range2 (by rfl) z_range (pa_cons pe_int (pa_cons (pe_op op_add (pe_k (by rfl) g_MOST) pe_int) pa_nil))) (pg_name (i := 4) sc_hidden_steps.nd rfl (Or.inl rfl)) (pss_one (ps_for PassesOwn.never rfl (pi_range2 (by rfl) z_range (pa_cons pe_int (pa_cons (pe_op op_add (pe_k (by rfl) g_MOST) pe_int) pa_nil))) (pg_name (i := 5) sc_hidden_steps.nd rfl (Or.inl rfl)) (pss_one (ps_if (pt_val (pe_can c_is_pipeline (hr.mono (by decide)) (by rfl) (pa_cons (pe_can c_replaced (hr.mono (by decide)) (by rfl) (pa_cons (pv 0) (pa_cons (pv 1) (pa_cons (pe_tup (pa_cons pe_str (pa_cons (pv 4) (pa_cons (pv 5) (pa_cons pe_int pa_nil))))) pa_nil)))) pa_nil))) (pss_cons (ps_set (i := 6) sc_hidden_steps.nd rfl (Or.inl rfl) (pe_can c_offset_bounds (hr.mono (by decide)) (by rfl) (pa_cons (pv 0) (pa_cons (pv 1) (pa_cons (pv 4) (pa_cons (pv 5) (pa_cons (pv 2) pa_nil))))))) (pss_one (ps_if (pt_cmpR op_notN (pv 6) pe_non (nomark _)) (pss_one (ps_expr (pe_bm PySem.F.plainAttrs_list PySem.F.slot_list_append PySem.F.type_list_append mt_append (pv 3) (pa_cons (pe_op (kcatA K) (pe_tup (pa_cons (pv 4) (pa_cons (pv 5) pa_nil))) (pv 6)) pa_nil)))) pss_nil))) pss_nil))))) (pss_one (ps_ret (pv 3)))))))), ?_⟩
  (purse 16 => fail)
  have nN : H pN = none := Same.free (by (purse 1 => fail)) hN
  refine fl_range (fun i σ' H' => Same H H' ∧ ∃ xs, H' pN = some (.lst xs) ∧ Paired (RowAt K H') xs (hidP p n zs i) ∧ ∃ w1 w2 w3, σ' = [some (.ref a), some (.int (n : Int)), some (.ref sw), some (.ref pN), w1, w2, w3]) ⟨by (purse 1 => fail), _, upd_same, .nil, _, _, _, rfl⟩ ?_ ?_
  · rintro i σ' H' hi ⟨hs, xs, hq, hx, w1, w2, w3, rfl⟩
    have hi12 : (i : Int) < 12 := by omega
    (purse 16 => fail)
    refine fl_range (fun j σ' H' => Same H H' ∧ ∃ xs, H' pN = some (.lst xs) ∧ Paired (RowAt K H') xs (hidP p n zs i ++ hidR p n zs (1 + (i : Int)) j) ∧ ∃ w2 w3, σ' = [some (.ref a), some (.int (n : Int)), some (.ref sw), some (.ref pN), some (.int (1 + (i : Int))), w2, w3]) ⟨by (purse 1 => fail), _, by (purse 3 => fail), by simpa [hidR] using hx, _, _, rfl⟩ ?_ ?_
    · rintro j σ' H3 hj ⟨hs3, ys, hq3, hx3, w2, w3, rfl⟩
      have hj12 : (j : Int) < 12 := by omega
      have hyl := Paired.len hx3
      have b1 := hidP_len p n zs i
      have b2 := hidR_len p n zs (1 + (i : Int)) j
      rw [List.length_append] at hyl
      (purse 16 => fail)
      · obtain ⟨cb, l, u, rfl, eo, hsb⟩ := obD_at obd hc
        refine r_catT (xs := [.int (1 + (i : Int)), .int (1 + (j : Int))]) (ys := [.int l, .int u]) SqT.new (by (purse 2 => fail)) (by rw [PySem.sizeLine_eq]; simp) fun pT H5 h5 sT => ?_
        have sT' : SqT K H5 pT [.int (1 + (i : Int)), .int (1 + (j : Int)), .int l, .int u] := sT
        clear sT
        (purse 16 => fail)
        have e : hidR p n zs (1 + (i : Int)) (j + 1) = hidR p n zs (1 + (i : Int)) j ++ [(1 + (i : Int), 1 + (j : Int), l, u)] := hidR_yes (hidO_eq (r := (1 + (i : Int), 1 + (j : Int), l, u)).mpr ⟨isPipeD_pipe.mp (by assumption), rfl, rfl, eo⟩)
        refine ⟨by (purse 1 => fail), _, upd_same, ?_, _, _, rfl⟩
        rw [e, ← List.append_assoc]
        exact Paired.snoc (Paired.mapP hx3 fun _ _ z => by (purse 2 => fail)) ⟨_, rfl, by (show SqT K _ pT [.int (1 + (i : Int)), .int (1 + (j : Int)), .int l, .int u]); (purse 2 => fail)⟩
      · subst hc
        have e := hidR_no (p := p) (n := n) (zs := zs) (k := 1 + (i : Int)) (j := j) (by
          cases e : hidO p n zs (1 + (i : Int)) (1 + (j : Int)) with
          | none => rfl
          | some r => have := (hidO_eq.mp e).2.2.2; rw [obD_no obd] at this; cases this)
        exact ⟨by (purse 1 => fail), ys, by (purse 3 => fail), by rw [e]; exact (Paired.mapP hx3 fun _ _ z => by (purse 2 => fail)), _, _, rfl⟩
      · have e := hidR_no (p := p) (n := n) (zs := zs) (k := 1 + (i : Int)) (j := j) (by
          cases e : hidO p n zs (1 + (i : Int)) (1 + (j : Int)) with
          | none => rfl
          | some r => exfalso; have := isPipeD_pipe.mpr (hidO_eq.mp e).1; rw [this] at hc; cases hc)
        exact ⟨by (purse 1 => fail), ys, by (purse 3 => fail), by rw [e]; exact (Paired.mapP hx3 fun _ _ z => by (purse 2 => fail)), _, _, rfl⟩
    · rintro σ' H3 ⟨hs3, ys, hq3, hx3, w2, w3, rfl⟩
      exact ⟨by (purse 1 => fail), ys, hq3, by rw [hidP_succ]; exact hx3, _, _, _, rfl⟩
  · rintro σ' H' ⟨hs, xs, hq, hx, w1, w2, w3, rfl⟩
    (purse 16 => fail)
    exact c _ _ (by (purse 1 => fail)) nN _ (by (purse 3 => fail)) hx
end
end
section
local macro_rules | `(tactic| purse 99 => fail) => `(tactic| (first | ((with_reducible refine' u_is_pipelineP ?rdA ?rdB ?_); (case rdA => (purse 2 => fail)); (case rdB => (first | assumption | decide)); intro H2 h2) | ((with_reducible refine' u_is_pipelineQ ?rdA ?_); (case rdA => (purse 2 => fail)); intro H2 h2) | ((with_reducible refine' u_replaced ?rdA ?rdB ?rdC ?_); (case rdA => (purse 2 => fail)); (case rdB => (purse 2 => fail)); (case rdC => (first | assumption | omega | decide)); intro rpc H2 h2 rpP) | ((with_reducible refine' u_is_step ?rdA ?rdB ?_); (case rdA => (purse 2 => fail)); (case rdB => assumption); intro H2 h2)))
section
variable {P : Program} {w : World} {K : PySem.W.Frag} {mg : Str → Option Value} {base : Heap}
theorem ok_need_step {f : Addr} {fd : FuncData} (F : Fun K "need_step" "need_step" s_need_step f fd) (c_is_pipeline : Can P w K mg base 3 "is_pipeline" ["value"] (sp_is_pipeline K)) (c_replaced : Can P w K mg base 1 "replaced" ["pipeline", "position", "step"] (sp_replaced K)) (c_is_step : Can P w K mg base 2 "is_step" ["value"] (sp_is_step K)) :
    FnOk P w K mg base CX0 4 f fd ["pipeline", "position", "value"] (sp_need_step K) := by
  refine F.ok sc_need_step (fun vs H Q E h => sp_need_step_len h) (fun cdv A outer s H vs Q E hr h => ?_)
  obtain ⟨a, p, n, u, s, rfl, hP, hU, hl, sok, rok, k⟩ := h
  have hs0 := shaped_step s
  have hUd := hU.dp
  have hi1 := isStepD_data.mpr sok
  refine ⟨_, (pss_one (ps_if (PW.pt (pw_or (pt_not (pt_val (pe_can c_is_step (hr.mono (by decide)) (by rfl) (pa_cons (pv 2) pa_nil)))) (pw_or1 (pt_not (pt_val (pe_can c_is_pipeline (hr.mono (by decide)) (by rfl) (pa_cons (pe_can c_replaced (hr.mono (by decide)) (by rfl) (pa_cons (pv 0) (pa_cons (pv 1) (pa_cons (pv 2) pa_nil)))) pa_nil))))))) (pss_one ps_never) pss_nil)), ?_⟩
  (purse 16 => fail)
  all_goals first
    | exact k _ (by (purse 1 => fail))
    | (exfalso; rw [hi1] at hc; cases hc)
    | (exfalso; rename_i hc; rw [hi1] at hc; cases hc)
end
end
section
local macro_rules | `(tactic| purse 99 => fail) => `(tactic| (first | ((with_reducible refine' u_differ_first ?rdA ?rdB ?rdC ?rdD ?rdE ?rdF ?_); (case rdA => (purse 2 => fail)); (case rdB => (purse 2 => fail)); (case rdC => (first | assumption | decide)); (case rdD => (first | assumption | decide)); (case rdE => (first | assumption | omega | decide)); (case rdF => (first | assumption | omega | decide)); intro fd H2 h2 fdh) | ((with_reducible refine' u_replaced ?rdA ?rdB ?rdC ?_); (case rdA => (purse 2 => fail)); (case rdB => (purse 2 => fail)); (case rdC => (first | assumption | omega | decide)); intro rpc H2 h2 rpP) | ((with_reducible refine' u_need_step ?rdA ?rdB ?rdC ?rdD ?rdE ?_); (case rdA => (purse 2 => fail)); (case rdB => (purse 2 => fail)); (case rdC => (first | assumption | omega | decide)); (case rdD => (first | assumption | decide)); (case rdE => (first | assumption | decide)); intro H2 h2) | ((with_reducible refine' u_need_position ?rdA ?rdB ?_); (case rdA => (purse 2 => fail)); (case rdB => (first | assumption | omega | decide)); intro H2 h2) | ((with_reducible refine' u_need_pipeline ?rdA ?rdB ?_); (case rdA => (purse 2 => fail)); (case rdB => (first | assumption | decide)); intro H2 h2)))
section
variable {P : Program} {w : World} {K : PySem.W.Frag} {mg : Str → Option Value} {base : Heap}
theorem ok_telling_argument {f : Addr} {fd : FuncData} (F : Fun K "telling_argument" "telling_argument" s_telling_argument f fd) (c_differ_first : Can P w K mg base 5 "differ_first" ["first", "second"] (sp_differ_first K)) (c_replaced : Can P w K mg base 1 "replaced" ["pipeline", "position", "step"] (sp_replaced K)) (c_need_step : Can P w K mg base 4 "need_step" ["pipeline", "position", "value"] (sp_need_step K)) (c_need_position : Can P w K mg base 2 "need_position" ["pipeline", "value"] (sp_need_position K)) (c_need_pipeline : Can P w K mg base 4 "need_pipeline" ["value"] (sp_need_pipeline K)) :
    FnOk P w K mg base CX0 6 f fd ["pipeline", "position", "one", "other"] (sp_telling_argument K) := by
  refine F.ok sc_telling_argument (fun vs H Q E h => sp_telling_argument_len h) (fun cdv A outer s H vs Q E hr h => ?_)
  obtain ⟨a, p, n, u, w, s, t, rfl, hP, hU, hW, ok, hn, so, to, o', o'', k⟩ := h
  have hl := ok.1
  have q1 := o'.pos
  have q2 := o''.pos
  have b1 : (repP p s n).prod ≤ 40000 := Int.le_trans o'.2.2 (by decide)
  have b2 : (repP p t n).prod ≤ 40000 := Int.le_trans o''.2.2 (by decide)
  refine ⟨_, (pss_cons (ps_expr (pe_can c_need_pipeline (hr.mono (by decide)) (by rfl) (pa_cons (pv 0) pa_nil))) (pss_cons (ps_expr (pe_can c_need_position (hr.mono (by decide)) (by rfl) (pa_cons (pv 0) (pa_cons (pv 1) pa_nil)))) (pss_cons (ps_expr (pe_can c_need_step (hr.mono (by decide)) (by rfl) (pa_cons (pv 0) (pa_cons (pv 1) (pa_cons (pv 2) pa_nil))))) (pss_cons (ps_expr (pe_can c_need_step (hr.mono (by decide)) (by rfl) (pa_cons (pv 0) (pa_cons (pv 1) (pa_cons (pv 3) pa_nil))))) (pss_one (ps_ret (pe_can c_differ_first (hr.mono (by decide)) (by rfl) (pa_cons (pe_can c_replaced (hr.mono (by decide)) (by rfl) (pa_cons (pv 0) (pa_cons (pv 1) (pa_cons (pv 2) pa_nil)))) (pa_cons (pe_can c_replaced (hr.mono (by decide)) (by rfl) (pa_cons (pv 0) (pa_cons (pv 1) (pa_cons (pv 3) pa_nil)))) pa_nil))))))))), ?_⟩
  (purse 16 => fail)
  exact k _ _ (by (purse 1 => fail)) fdh
end
end
section
local macro_rules | `(tactic| purse 99 => fail) => `(tactic| (first | ((with_reducible refine' u_value_at ?rdA ?rdB ?_); (case rdA => (purse 2 => fail)); (case rdB => (first | assumption | decide)); intro H2 h2)))
section
variable {P : Program} {w : World} {K : PySem.W.Frag} {mg : Str → Option Value} {base : Heap}
theorem ok_fits {f : Addr} {fd : FuncData} (F : Fun K "fits" "fits" s_fits f fd) (c_value_at : Can P w K mg base 2 "value_at" ["pipeline", "x"] (sp_value_at K)) (z_all : mg "all" = none) :
    FnOk P w K mg base CX0 3 f fd ["pipeline", "samples"] (sp_fits K) := by
  refine F.ok sc_fits (fun vs H Q E h => sp_fits_len h) (fun cdv A outer s H vs Q E hr h => ?_)
  obtain ⟨v, p, w, zs, rfl, hP, hZ, pp, hn, k⟩ := h
  obtain ⟨a, xs, rfl, hS, hx⟩ := hZ
  refine ⟨_, (pss_one (ps_ret (pe_callB (kall K) (by rfl) z_all (by decide +kernel) (pa_cons (pe_lc (own := [("x", 2), ("y", 3)]) (by rfl) sc_fits.nd (kpi_tup K (pv 1)) (blkOk_by (own := [("x", 2), ("y", 3)]) (N := n_fits) (sc := defScope s_fits) (by decide +kernel)) (fun _ _ _ _ _ => (kpg_tup K (n := 2) (pgs_cons (pg_name (i := 2) sc_fits.nd rfl (Or.inl rfl)) (pgs_cons (pg_name (i := 3) sc_fits.nd rfl (Or.inl rfl)) pgs_nil)))) (fun _ _ _ _ _ => pts_nil) (fun _ _ _ _ _ => (pe_cmpR op_eq (pe_can c_value_at (hr.mono (by decide)) (by rfl) (pa_cons (pv 0) (pa_cons (pv 2) pa_nil))) (pv 3) (nomark _)))) pa_nil)))), ?_⟩
  (purse 16 => fail)
  refine ll_sampT (fun z => .bl (decide (p.val z.1 = z.2))) (fun _ => true) hS hx (by omega) (fun _ _ => rfl) ?_ ?_ ?_
  · intro z H' Q' _ hs kq
    exact kq _ (Same.refl _)
  · intro z H' Q' _ hs kq
    (purse 16 => fail)
    have := kq _ h2
    simpa using this
  · intro D H1 hs hD hn1
    have hD' : H1 D = some (.lst ((zs.map fun z => decide (p.val z.1 = z.2)).map V.bl)) := by rw [hD, List.map_map, List.filter_eq_self.mpr (fun _ _ => rfl)]; rfl
    (purse 16 => fail)
    refine r_all (SqL.of hD') ?_
    refine qbl ?_ (k _ (by (purse 1 => fail)))
    rw [List.all_map]; rfl
end
end
section
local macro_rules | `(tactic| purse 99 => fail) => `(tactic| (first | ((with_reducible refine' u_fits ?rdA ?rdB ?rdC ?rdD ?_); (case rdA => (purse 2 => fail)); (case rdB => (purse 2 => fail)); (case rdC => (first | assumption | decide)); (case rdD => (first | assumption | omega | decide)); intro H2 h2) | ((with_reducible refine' u_is_pipelineP ?rdA ?rdB ?_); (case rdA => (purse 2 => fail)); (case rdB => (first | assumption | decide)); intro H2 h2) | ((with_reducible refine' u_is_pipelineQ ?rdA ?_); (case rdA => (purse 2 => fail)); intro H2 h2) | ((with_reducible refine' u_need_samples ?rdA ?rdB ?rdC ?_); (case rdA => (purse 2 => fail)); (case rdB => (first | assumption | omega | decide)); (case rdC => (first | assumption | decide)); intro H2 h2) | ((with_reducible refine' u_is_step ?rdA ?rdB ?_); (case rdA => (purse 2 => fail)); (case rdB => assumption); intro H2 h2) | ((with_reducible refine' u_need_pipeline ?rdA ?rdB ?_); (case rdA => (purse 2 => fail)); (case rdB => (first | assumption | decide)); intro H2 h2)))
section
variable {P : Program} {w : World} {K : PySem.W.Frag} {mg : Str → Option Value} {base : Heap}
theorem ok_insert_positions {f : Addr} {fd : FuncData} (F : Fun K "insert_positions" "insert_positions" s_insert_positions f fd) (c_fits : Can P w K mg base 3 "fits" ["pipeline", "samples"] (sp_fits K)) (c_is_pipeline : Can P w K mg base 3 "is_pipeline" ["value"] (sp_is_pipeline K)) (c_need_samples : Can P w K mg base 3 "need_samples" ["value"] (sp_need_samples K)) (c_is_step : Can P w K mg base 2 "is_step" ["value"] (sp_is_step K)) (c_need_pipeline : Can P w K mg base 4 "need_pipeline" ["value"] (sp_need_pipeline K)) (z_range : mg "range" = none) (z_len : mg "len" = none) :
    FnOk P w K mg base CX0 5 f fd ["pipeline", "step", "samples"] (sp_insert_positions K) := by
  refine F.ok sc_insert_positions (fun vs H Q E h => sp_insert_positions_len h) (fun cdv A outer s H vs Q E hr h => ?_)
  obtain ⟨v, p, u, s, w, zs, rfl, hP, hU, hZ, ok, sok, c, c', k⟩ := h
  have hl6 := ok.1
  have hs0 := shaped_step s
  have hUd := hU.dp
  obtain ⟨av, rfl⟩ := hP.ref
  refine ⟨_, (pss_cons (ps_expr (pe_can c_need_pipeline (hr.mono (by decide)) (by rfl) (pa_cons (pv 0) pa_nil))) (pss_cons (ps_if (pt_not (pt_val (pe_can c_is_step (hr.mono (by decide)) (by rfl) (pa_cons (pv 1) pa_nil)))) (pss_one ps_never) pss_nil) (pss_cons (ps_expr (pe_can c_need_samples (hr.mono (by decide)) (by rfl) (pa_cons (pv 2) pa_nil))) (pss_cons (ps_set (i := 3) sc_insert_positions.nd rfl (Or.inl rfl) (pe_lst pa_nil)) (pss_cons (ps_for PassesOwn.never rfl (pi_range1 (by rfl) z_range (pa_cons (pe_op op_add (pe_callB (klen K) (by rfl) z_len (by decide +kernel) (pa_cons (pv 0) pa_nil)) pe_int) pa_nil)) (pg_name (i := 4) sc_insert_positions.nd rfl (Or.inl rfl)) (pss_cons (ps_set (i := 5) sc_insert_positions.nd rfl (Or.inl rfl) (pe_op (kcatA K) (pe_op (kcatA K) (pe_slice (ksl_tupA K) (pv 0) po_none (po_some (pv 4))) (pe_tup (pa_cons (pv 1) pa_nil))) (pe_slice (ksl_tupA K) (pv 0) (po_some (pv 4)) po_none))) (pss_one (ps_if (PW.pt (pw_and (pt_val (pe_can c_is_pipeline (hr.mono (by decide)) (by rfl) (pa_cons (pv 5) pa_nil))) (pw_and1 (pt_val (pe_can c_fits (hr.mono (by decide)) (by rfl) (pa_cons (pv 5) (pa_cons (pv 2) pa_nil))))))) (pss_one (ps_expr (pe_bm PySem.F.plainAttrs_list PySem.F.slot_list_append PySem.F.type_list_append mt_append (pv 3) (pa_cons (pv 4) pa_nil)))) pss_nil)))) (pss_one (ps_ret (pv 3)))))))), ?_⟩
  (purse 16 => fail)
  · exfalso
    rw [isStepD_data.mpr sok] at hc
    cases hc
  have nN : H pN = none := Same.free (by (purse 1 => fail)) hN
  refine fl_range (fun i σ' H' => Same H H' ∧ H' pN = some (.lst ((insL p s zs i).map V.int)) ∧ ∃ w4 w5, σ' = [some (.ref av), some u, some w, some (.ref pN), w4, w5]) ⟨by (purse 1 => fail), by exact upd_same, _, _, rfl⟩ ?_ ?_
  · rintro i σ' H' hi ⟨hS, hq, w4, w5, rfl⟩
    have hil := insL_len p s zs i
    have pos3 : (insP p s i).pos := insP_pos ok.pos sok.pos i
    have hzl : zs.length ≤ 1000000 := by omega
    rw [Int.zero_add]
    (purse 16 => fail)
    · refine ⟨by (purse 1 => fail), ?_, _, _, rfl⟩
      have hb : insB p s zs i = true := insB_iff.mpr ⟨isPipeD_pipe.mp (by assumption), by assumption⟩
      rw [upd_same, insL_succ, if_pos hb, List.map_append]; rfl
    · refine ⟨by (purse 1 => fail), ?_, _, _, rfl⟩
      have hb : ¬ insB p s zs i = true := fun h => by have h2 := (insB_iff.mp h).2; rw [h2] at hc; cases hc
      rw [insL_succ, if_neg hb, List.append_nil]; (purse 3 => fail)
    · refine ⟨by (purse 1 => fail), ?_, _, _, rfl⟩
      have hb : ¬ insB p s zs i = true := fun h => by have h2 := isPipeD_pipe.mpr (insB_iff.mp h).1; rw [h2] at hc; cases hc
      rw [insL_succ, if_neg hb, List.append_nil]; (purse 3 => fail)
  · rintro σ' H' ⟨hS, hq, w4, w5, rfl⟩
    (purse 16 => fail)
    have e : (Int.toNat ((p.length : Int) + 1)) = p.length + 1 := by omega
    rw [e] at hq
    exact k _ _ (by (purse 1 => fail)) (Same.free (by (purse 1 => fail)) hN) hq
end
end
section
local macro_rules | `(tactic| purse 99 => fail) => `(tactic| (first | ((with_reducible refine' u_least_period ?rdA ?rdB ?rdC ?_); (case rdA => (purse 2 => fail)); (case rdB => (first | assumption | decide)); (case rdC => (first | assumption | omega | decide)); intro lt lP lR H2 h2 lst lpl)))
section
variable {P : Program} {w : World} {K : PySem.W.Frag} {mg : Str → Option Value} {base : Heap}
theorem ok_need_level {f : Addr} {fd : FuncData} (F : Fun K "need_level" "need_level" s_need_level f fd) (c_least_period : Can P w K mg base 4 "least_period" ["steps"] (sp_least_period K)) :
    FnOk P w K mg base CX0 5 f fd ["pipeline"] (sp_need_level K) := by
  refine F.ok sc_need_level (fun vs H Q E h => sp_need_level_len h) (fun cdv A outer s H vs Q E hr h => ?_)
  obtain ⟨v, p, P, rfl, hP, pp, pb, lpP, k⟩ := h
  refine ⟨_, (pss_cons (ps_asg (pe_can c_least_period (hr.mono (by decide)) (by rfl) (pa_cons (pv 0) pa_nil)) (kpg_tup K (n := 2) (pgs_cons (pg_name (i := 1) sc_need_level.nd rfl (Or.inl rfl)) (pgs_cons (pg_name (i := 2) sc_need_level.nd rfl (Or.inl rfl)) pgs_nil)))) (pss_cons (ps_if (pt_cmpR op_ne (pv 1) (pv 2) (nomark _)) (pss_one ps_never) pss_nil) (pss_one (ps_ret (pv 1))))), ?_⟩
  (purse 16 => fail)
  · exfalso
    have := lpl.unique lpP
    exact hc (by omega)
  · have e := lpl.unique lpP
    rw [e.1]
    exact k _ (by (purse 1 => fail))
end
end
section
local macro_rules | `(tactic| purse 99 => fail) => `(tactic| (first | ((with_reducible refine' u_value_at ?rdA ?rdB ?_); (case rdA => (purse 2 => fail)); (case rdB => (first | assumption | decide)); intro H2 h2)))
section
variable {P : Program} {w : World} {K : PySem.W.Frag} {mg : Str → Option Value} {base : Heap}
theorem ok_walk {f : Addr} {fd : FuncData} (F : Fun K "walk" "walk" s_walk f fd) (c_value_at : Can P w K mg base 2 "value_at" ["pipeline", "x"] (sp_value_at K)) (z_len : mg "len" = none) :
    FnOk P w K mg base CX0 3 f fd ["pipeline", "length", "x"] (sp_walk K) := by
  refine F.ok sc_walk (fun vs H Q E h => sp_walk_len h) (fun cdv A outer s H vs Q E hr h => ?_)
  obtain ⟨v, p, L, x, rfl, hP, pp, ⟨hL, hL2⟩, hq, k⟩ := h
  refine ⟨_, (pss_cons (ps_par (i := 3) (j := 4) (by rfl) sc_walk.nd rfl rfl (by decide) rfl rfl (pa_cons (pe_lst (pa_cons (pv 2) pa_nil)) (pa_cons (pe_disp (pps_cons (pe_op op_mod (pv 2) (pv 1)) pe_int pps_nil) (by rfl) (by rfl) (fun z => by cases z) (by decide)) pa_nil)) (by rfl)) (pss_one (ps_while PassesOwn.never (pt_val pe_bl) (pss_cons (ps_set (i := 2) sc_walk.nd rfl (Or.inl rfl) (pe_can c_value_at (hr.mono (by decide)) (by rfl) (pa_cons (pv 0) (pa_cons (pv 2) pa_nil)))) (pss_cons (ps_if (pt_cmp (pc_din (hu_of hr) (pe_op op_mod (pv 2) (pv 1)) (pv 4)) (by rfl)) (pss_one (ps_ret (pe_tup (pa_cons (pe_op op_cat (pv 3) (pe_lst (pa_cons (pv 2) pa_nil))) (pa_cons (pe_dget (hu_of hr) (pv 4) (pe_op op_mod (pv 2) (pv 1)) (fun _ _ => rfl)) pa_nil))))) pss_nil) (pss_cons (ps_dput (hu_of hr) (pv 4) (pe_op op_mod (pv 2) (pv 1)) (pe_callB (klen K) (by rfl) z_len (by decide +kernel) (pa_cons (pv 3) pa_nil)) rfl) (pss_one (ps_expr (pe_bm PySem.F.plainAttrs_list PySem.F.slot_list_append PySem.F.type_list_append mt_append (pv 3) (pa_cons (pv 2) pa_nil)))))))))), ?_⟩
  (purse 16 => fail)
  refine r_disp fun dN hdN => ?_
  refine r_pairs1 ?_
  (purse 16 => fail)
  refine ⟨upd_same, [(kI (x % L), .int 0)], rfl, by simp, ?_⟩
  (purse 16 => fail)
  obtain ⟨vN, evN⟩ : ∃ z, z = pN := ⟨_, rfl⟩
  have hvd : pN ≠ dN := by
    intro e; rw [e, upd_same] at hdN; cases hdN
  have F1 : (upd (upd (upd H pN (.lst [.int x])) dN (.dK [])) dN (.dK (mergeK [] [(kI (x % L), .int 0)]))) pN = some (.lst [.int x]) := by rw [upd_ne hvd, upd_ne hvd, upd_same]
  have nd : H dN = none := Same.free (Same.up (Same.refl _) hN) hdN
  have F2 : Same H (upd (upd (upd H pN (.lst [.int x])) dN (.dK [])) dN (.dK (mergeK [] [(kI (x % L), .int 0)]))) := Same.upN (Same.up (Same.up (Same.refl _) hN) hdN) nd
  have F3 : (upd (upd (upd H pN (.lst [.int x])) dN (.dK [])) dN (.dK (mergeK [] [(kI (x % L), .int 0)]))) dN = some (.dK (mergeK [] [(kI (x % L), .int 0)])) := upd_same
  generalize (upd (upd (upd H pN (.lst [.int x])) dN (.dK [])) dN (.dK (mergeK [] [(kI (x % L), .int 0)]))) = H1 at *
  refine s_while (fun n σ' H' => Same H H' ∧ ∃ (i : Nat) (kvs : List (Key × V)), n = L.toNat - i ∧ H' pN = some (.lst (itL p.val x (i + 1))) ∧ H' dN = some (.dK kvs) ∧ SInv kvs p.val L x i ∧ σ' = [some v, some (.int L), some (.int (itN p.val i x)), some (.ref pN), some (.ref dN)]) _ ⟨F2, 0, _, rfl, F1, F3, SInv.start _ _ _, rfl⟩ ?_
  rintro n σ' H' ⟨hS, i, kvs, rfl, hl, hd, S, rfl⟩
  have hil := dis_le hL S.dis
  have hpos := itL_len p.val x (i + 1)
  have hkl := S.len
  (purse 16 => fail)
  refine ⟨fun σ3 H3 => Same H H3 ∧ ∃ kvs, i + 1 < L.toNat + 1 ∧ H3 pN = some (.lst (itL p.val x (i + 1 + 1))) ∧ H3 dN = some (.dK kvs) ∧ SInv kvs p.val L x (i + 1) ∧ σ3 = [some v, some (.int L), some (.int (itN p.val (i + 1) x)), some (.ref pN), some (.ref dN)], ?_, ?_⟩
  · rintro σ3 H3 ⟨h3, kvs3, hlt, a1, a2, a3, rfl⟩
    exact ⟨L.toNat - (i + 1), by omega, h3, _, _, rfl, a1, a2, a3, rfl⟩
  (purse 16 => fail)
  refine r_din ?_
  (purse 16 => fail)
  have hd2 := h2 _ _ hd
  have hl2 := h2 _ _ hl
  have ex : p.val (itN p.val i x) = itN p.val (i + 1) x := rfl
  refine ⟨dN, _, rfl, DGet.k (k := kI (p.val (itN p.val i x) % L)) hd2, ?_⟩
  rw [ex]
  rcases valV_shape (kvs := kvs) (k := kI (itN p.val (i + 1) x % L)) with ev | ⟨w, ev⟩
  · rw [ev]
    refine ⟨false, rfl, ?_⟩
    (purse 16 => fail)
    refine s_dput ?_
    (purse 16 => fail)
    rw [List.length_range]
    refine ⟨dN, _, rfl, DPut.k (k := kI (itN p.val (i + 1) x % L)) hd2 (by rw [PySem.sizeLine_eq]; omega), ?_⟩
    have hl3 : (upd H2 dN (.dK (putK kvs (kI (itN p.val (i + 1) x % L)) (.int ((i + 1 : Nat) : Int))))) pN = some (.lst (itL p.val x (i + 1))) := by rw [upd_ne hvd]; exact hl2
    (purse 16 => fail)
    refine ⟨Same.upN (Same.upN (hS.trans h2) nd) hN, _, ?_, by rw [itL_succ]; exact upd_same, by rw [upd_ne (Ne.symm hvd), upd_same], by have := S.put ev; push_cast; exact this, rfl⟩
    have := dis_le hL (S.put ev).dis
    omega
  · obtain ⟨j, hj, ej, rfl⟩ := S.found ev
    rw [ev]
    refine ⟨true, rfl, ?_⟩
    (purse 16 => fail)
    refine r_dgetI ?_
    (purse 16 => fail)
    refine ⟨dN, .int (j : Nat), rfl, by rw [← ev]; exact DGet.k (k := kI (itN p.val (i + 1) x % L)) (by (purse 3 => fail)), ?_⟩
    (purse 16 => fail)
    refine k _ _ j (i + 1) _ (by (purse 1 => fail)) ⟨by omega, by rw [ej], S.dis⟩ SqT.new ?_
    rw [← itL_succ p.val x (i + 1)]
    exact SqL.of (by (purse 3 => fail))
end
end
section
local macro_rules | `(tactic| purse 99 => fail) => `(tactic| (first | ((with_reducible refine' u_walk ?rdA ?rdB ?rdC ?rdD ?_); (case rdA => (purse 2 => fail)); (case rdB => (first | assumption | decide)); (case rdC => (first | assumption | omega)); (case rdD => assumption); intro wq wl wμ wm H2 h2 wW wst wlst) | ((with_reducible refine' u_need_level ?rdA ?rdB ?rdC ?rdD ?rdE ?_); (case rdA => (purse 2 => fail)); (case rdB => (first | assumption | decide)); (case rdC => (first | assumption | omega | decide)); (case rdD => assumption); (case rdE => rfl); intro H2 h2) | ((with_reducible refine' u_is_integer ?rdA ?_); (case rdA => (purse 2 => fail)); intro H2 h2) | ((with_reducible refine' u_need_integer ?rdA ?_); (case rdA => (first | assumption | omega | (constructor <;> omega))); intro H2 h2) | ((with_reducible refine' u_need_pipeline ?rdA ?rdB ?_); (case rdA => (purse 2 => fail)); (case rdB => (first | assumption | decide)); intro H2 h2)))
section
variable {P : Program} {w : World} {K : PySem.W.Frag} {mg : Str → Option Value} {base : Heap}
theorem ok_iterate {f : Addr} {fd : FuncData} (F : Fun K "iterate" "iterate" s_iterate f fd) (c_walk : Can P w K mg base 3 "walk" ["pipeline", "length", "x"] (sp_walk K)) (c_need_level : Can P w K mg base 5 "need_level" ["pipeline"] (sp_need_level K)) (c_is_integer : Can P w K mg base 1 "is_integer" ["value", "low", "high"] (sp_is_integer K)) (c_need_integer : Can P w K mg base 2 "need_integer" ["value"] (sp_need_integer K)) (c_need_pipeline : Can P w K mg base 4 "need_pipeline" ["value"] (sp_need_pipeline K)) (z_len : mg "len" = none) (g_BOUND : KInt mg "BOUND" 1000000000000000000) :
    FnOk P w K mg base CX0 6 f fd ["pipeline", "x", "count"] (sp_iterate K) := by
  refine F.ok sc_iterate (fun vs H Q E h => sp_iterate_len h) (fun cdv A outer s H vs Q E hr h => ?_)
  obtain ⟨v, p, P, x, n, rfl, hP, ok, lp, xb, nb, k⟩ := h
  have pp := ok.pos
  have pb : p.prod ≤ 100000 := Int.le_trans ok.2.2 (by decide)
  have P0 := lp.pos
  have P1 : P ≤ 100000 := Int.le_trans (lp.bounds pp).1 pb
  have hq := lp.qp
  refine ⟨_, (pss_cons (ps_expr (pe_can c_need_pipeline (hr.mono (by decide)) (by rfl) (pa_cons (pv 0) pa_nil))) (pss_cons (ps_expr (pe_can c_need_integer (hr.mono (by decide)) (by rfl) (pa_cons (pv 1) pa_nil))) (pss_cons (ps_if (pt_not (pt_val (pe_can c_is_integer (hr.mono (by decide)) (by rfl) (pa_cons (pv 2) (pa_cons pe_int (pa_cons (pe_k (by rfl) g_BOUND) pa_nil)))))) (pss_one ps_never) pss_nil) (pss_cons (ps_asg (pe_can c_walk (hr.mono (by decide)) (by rfl) (pa_cons (pv 0) (pa_cons (pe_can c_need_level (hr.mono (by decide)) (by rfl) (pa_cons (pv 0) pa_nil)) (pa_cons (pv 1) pa_nil)))) (kpg_tup K (n := 2) (pgs_cons (pg_name (i := 3) sc_iterate.nd rfl (Or.inl rfl)) (pgs_cons (pg_name (i := 4) sc_iterate.nd rfl (Or.inl rfl)) pgs_nil)))) (pss_cons (ps_if (pt_cmpR op_lt (pv 2) (pe_callB (klen K) (by rfl) z_len (by decide +kernel) (pa_cons (pv 3) pa_nil)) (nomark _)) (pss_one (ps_ret (pe_ix (kix_list K) (pv 3) (pv 2) (fun _ _ => rfl)))) pss_nil) (pss_cons (ps_set (i := 5) sc_iterate.nd rfl (Or.inl rfl) (pe_op op_sub (pe_op op_sub (pe_callB (klen K) (by rfl) z_len (by decide +kernel) (pa_cons (pv 3) pa_nil)) pe_int) (pv 4))) (pss_cons (ps_par (i := 6) (j := 7) (by rfl) sc_iterate.nd rfl rfl (by decide) rfl rfl (pa_cons (pe_op op_fdiv (pe_op op_sub (pv 2) (pv 4)) (pv 5)) (pa_cons (pe_op op_mod (pe_op op_sub (pv 2) (pv 4)) (pv 5)) pa_nil)) (by rfl)) (pss_one (ps_ret (pe_op op_add (pe_ix (kix_list K) (pv 3) (pe_op op_add (pv 4) (pv 7)) (fun _ _ => rfl)) (pe_op op_mul (pv 6) (pe_op op_sub (pe_ix (kix_list K) (pv 3) (pe_un un_neg pe_int) (fun _ _ => rfl)) (pe_ix (kix_list K) (pv 3) (pv 4) (fun _ _ => rfl)))))))))))))), ?_⟩
  (purse 16 => fail)
  · exfalso
    simp [isIntD] at hc
    omega
  · rw [List.length_range] at hc
    exact r_ixIt wlst (i := n.toNat) (by omega) (by omega) (k _ (by (purse 1 => fail)))
  have hlt := wW.lt
  have hle := wW.len_le P0
  rw [List.length_range] at hc
  rw [List.length_range, show ((wm + 1 : Nat) : Int) - 1 - (wμ : Int) = (wm : Int) - wμ by omega]
  have d0 := Int.emod_nonneg (n - wμ) (show (wm : Int) - wμ ≠ 0 by omega)
  have d1 := Int.emod_lt_of_pos (n - wμ) (show 0 < (wm : Int) - wμ by omega)
  have d3 : 0 ≤ (n - wμ) / ((wm : Int) - wμ) := Int.ediv_nonneg (by omega) (by omega)
  have d4 : (n - wμ) / ((wm : Int) - wμ) ≤ n - wμ := Int.ediv_le_self _ (by omega)
  have ha := wW.at hq n.toNat (by omega)
  have e1 : (((n.toNat - wμ : Nat) % (wm - wμ) : Nat) : Int) = (n - wμ) % ((wm : Int) - wμ) := by
    rw [Int.natCast_emod, show ((n.toNat - wμ : Nat) : Int) = n - wμ by omega, show ((wm - wμ : Nat) : Int) = (wm : Int) - wμ by omega]
  have e2 : (((n.toNat - wμ : Nat) / (wm - wμ) : Nat) : Int) = (n - wμ) / ((wm : Int) - wμ) := by
    rw [Int.natCast_ediv, show ((n.toNat - wμ : Nat) : Int) = n - wμ by omega, show ((wm - wμ : Nat) : Int) = (wm : Int) - wμ by omega]
  have e3 : ((wμ : Int) + (n - wμ) % ((wm : Int) - wμ)).toNat = wμ + (n.toNat - wμ) % (wm - wμ) := by omega
  (purse 16 => fail)
  refine r_ixItL wlst ?_
  (purse 16 => fail)
  refine qint ?_ (k _ (by (purse 1 => fail)))
  rw [ha, e2, e3, Int.toNat_natCast]
end
end
section
local macro_rules | `(tactic| purse 99 => fail) => `(tactic| (first | ((with_reducible refine' u_fraction ?rdA ?_); (case rdA => omega); intro fp H2 h2 f2) | ((with_reducible refine' u_walk ?rdA ?rdB ?rdC ?rdD ?_); (case rdA => (purse 2 => fail)); (case rdB => (first | assumption | decide)); (case rdC => (first | assumption | omega)); (case rdD => assumption); intro wq wl wμ wm H2 h2 wW wst wlst) | ((with_reducible refine' u_need_level ?rdA ?rdB ?rdC ?rdD ?rdE ?_); (case rdA => (purse 2 => fail)); (case rdB => (first | assumption | decide)); (case rdC => (first | assumption | omega | decide)); (case rdD => assumption); (case rdE => rfl); intro H2 h2) | ((with_reducible refine' u_need_pipeline ?rdA ?rdB ?_); (case rdA => (purse 2 => fail)); (case rdB => (first | assumption | decide)); intro H2 h2)))
section
variable {P : Program} {w : World} {K : PySem.W.Frag} {mg : Str → Option Value} {base : Heap}
theorem ok_mean_shift {f : Addr} {fd : FuncData} (F : Fun K "mean_shift" "mean_shift" s_mean_shift f fd) (c_fraction : Can P w K mg base 2 "fraction" ["top", "bottom"] (sp_fraction K)) (c_walk : Can P w K mg base 3 "walk" ["pipeline", "length", "x"] (sp_walk K)) (c_need_level : Can P w K mg base 5 "need_level" ["pipeline"] (sp_need_level K)) (c_need_pipeline : Can P w K mg base 4 "need_pipeline" ["value"] (sp_need_pipeline K)) (z_len : mg "len" = none) :
    FnOk P w K mg base CX0 6 f fd ["pipeline"] (sp_mean_shift K) := by
  refine F.ok sc_mean_shift (fun vs H Q E h => sp_mean_shift_len h) (fun cdv A outer s H vs Q E hr h => ?_)
  obtain ⟨v, p, P, rfl, hP, ok, lp, k⟩ := h
  have pp := ok.pos
  have pb : p.prod ≤ 100000 := Int.le_trans ok.2.2 (by decide)
  have P0 := lp.pos
  have P1 : P ≤ 100000 := Int.le_trans (lp.bounds pp).1 pb
  have hq := lp.qp
  refine ⟨_, (pss_cons (ps_expr (pe_can c_need_pipeline (hr.mono (by decide)) (by rfl) (pa_cons (pv 0) pa_nil))) (pss_cons (ps_asg (pe_can c_walk (hr.mono (by decide)) (by rfl) (pa_cons (pv 0) (pa_cons (pe_can c_need_level (hr.mono (by decide)) (by rfl) (pa_cons (pv 0) pa_nil)) (pa_cons pe_int pa_nil)))) (kpg_tup K (n := 2) (pgs_cons (pg_name (i := 1) sc_mean_shift.nd rfl (Or.inl rfl)) (pgs_cons (pg_name (i := 2) sc_mean_shift.nd rfl (Or.inl rfl)) pgs_nil)))) (pss_one (ps_ret (pe_can c_fraction (hr.mono (by decide)) (by rfl) (pa_cons (pe_op op_sub (pe_ix (kix_list K) (pv 1) (pe_un un_neg pe_int) (fun _ _ => rfl)) (pe_ix (kix_list K) (pv 1) (pv 2) (fun _ _ => rfl))) (pa_cons (pe_op op_sub (pe_op op_sub (pe_callB (klen K) (by rfl) z_len (by decide +kernel) (pa_cons (pv 1) pa_nil)) pe_int) (pv 2)) pa_nil))))))), ?_⟩
  (purse 16 => fail)
  have hlt := wW.lt
  have hle := wW.len_le P0
  refine r_ixItL wlst ?_
  (purse 16 => fail)
  rw [List.length_range, show ((wm + 1 : Nat) : Int) - 1 - (wμ : Int) = (wm : Int) - wμ by omega, Int.toNat_natCast]
  (purse 16 => fail)
  exact k _ wμ wm _ (by (purse 1 => fail)) wW (by (purse 2 => fail))
end
end
section
local macro_rules | `(tactic| purse 99 => fail) => `(tactic| (first | ((with_reducible refine' u_walk ?rdA ?rdB ?rdC ?rdD ?_); (case rdA => (purse 2 => fail)); (case rdB => (first | assumption | decide)); (case rdC => (first | assumption | omega)); (case rdD => assumption); intro wq wl wμ wm H2 h2 wW wst wlst) | ((with_reducible refine' u_need_level ?rdA ?rdB ?rdC ?rdD ?rdE ?_); (case rdA => (purse 2 => fail)); (case rdB => (first | assumption | decide)); (case rdC => (first | assumption | omega | decide)); (case rdD => assumption); (case rdE => rfl); intro H2 h2) | ((with_reducible refine' u_need_integer ?rdA ?_); (case rdA => (first | assumption | omega | (constructor <;> omega))); intro H2 h2) | ((with_reducible refine' u_need_pipeline ?rdA ?rdB ?_); (case rdA => (purse 2 => fail)); (case rdB => (first | assumption | decide)); intro H2 h2)))
section
variable {P : Program} {w : World} {K : PySem.W.Frag} {mg : Str → Option Value} {base : Heap}
theorem ok_cycle {f : Addr} {fd : FuncData} (F : Fun K "cycle" "cycle" s_cycle f fd) (c_walk : Can P w K mg base 3 "walk" ["pipeline", "length", "x"] (sp_walk K)) (c_need_level : Can P w K mg base 5 "need_level" ["pipeline"] (sp_need_level K)) (c_need_integer : Can P w K mg base 2 "need_integer" ["value"] (sp_need_integer K)) (c_need_pipeline : Can P w K mg base 4 "need_pipeline" ["value"] (sp_need_pipeline K)) (z_len : mg "len" = none) :
    FnOk P w K mg base CX0 6 f fd ["pipeline", "x"] (sp_cycle K) := by
  refine F.ok sc_cycle (fun vs H Q E h => sp_cycle_len h) (fun cdv A outer s H vs Q E hr h => ?_)
  obtain ⟨v, p, P, x, rfl, hP, ok, lp, xb, k⟩ := h
  have pp := ok.pos
  have pb : p.prod ≤ 100000 := Int.le_trans ok.2.2 (by decide)
  have P0 := lp.pos
  have P1 : P ≤ 100000 := Int.le_trans (lp.bounds pp).1 pb
  have hq := lp.qp
  refine ⟨_, (pss_cons (ps_expr (pe_can c_need_pipeline (hr.mono (by decide)) (by rfl) (pa_cons (pv 0) pa_nil))) (pss_cons (ps_expr (pe_can c_need_integer (hr.mono (by decide)) (by rfl) (pa_cons (pv 1) pa_nil))) (pss_cons (ps_asg (pe_can c_walk (hr.mono (by decide)) (by rfl) (pa_cons (pv 0) (pa_cons (pe_can c_need_level (hr.mono (by decide)) (by rfl) (pa_cons (pv 0) pa_nil)) (pa_cons (pv 1) pa_nil)))) (kpg_tup K (n := 2) (pgs_cons (pg_name (i := 2) sc_cycle.nd rfl (Or.inl rfl)) (pgs_cons (pg_name (i := 3) sc_cycle.nd rfl (Or.inl rfl)) pgs_nil)))) (pss_one (ps_ret (pe_tup (pa_cons (pv 3) (pa_cons (pe_op op_sub (pe_op op_sub (pe_callB (klen K) (by rfl) z_len (by decide +kernel) (pa_cons (pv 2) pa_nil)) pe_int) (pv 3)) pa_nil)))))))), ?_⟩
  (purse 16 => fail)
  refine ⟨by rw [PySem.sizeLine_eq]; simp, fun pT hT => ?_⟩
  rw [List.length_range, show ((wm + 1 : Nat) : Int) - 1 - (wμ : Int) = (wm : Int) - wμ by omega]
  exact k _ wμ wm _ (by (purse 1 => fail)) wW SqT.new
end
end
section
local macro_rules | `(tactic| purse 99 => fail) => `(tactic| (first | ((with_reducible refine' u_is_integer ?rdA ?_); (case rdA => (purse 2 => fail)); intro H2 h2)))
section
variable {P : Program} {w : World} {K : PySem.W.Frag} {mg : Str → Option Value} {base : Heap}
theorem ok_need_divisor {f : Addr} {fd : FuncData} (F : Fun K "need_divisor" "need_divisor" s_need_divisor f fd) (c_is_integer : Can P w K mg base 1 "is_integer" ["value", "low", "high"] (sp_is_integer K)) :
    FnOk P w K mg base CX0 2 f fd ["value", "most"] (sp_need_divisor K) := by
  refine F.ok sc_need_divisor (fun vs H Q E h => sp_need_divisor_len h) (fun cdv A outer s H vs Q E hr h => ?_)
  obtain ⟨m, b, rfl, hm, k⟩ := h
  refine ⟨_, (pss_one (ps_if (pt_not (pt_val (pe_can c_is_integer (hr.mono (by decide)) (by rfl) (pa_cons (pv 0) (pa_cons pe_int (pa_cons (pv 1) pa_nil)))))) (pss_one ps_never) pss_nil)), ?_⟩
  (purse 16 => fail)
  · exfalso
    simp [isIntD] at hc
    omega
  · exact k _ (by (purse 1 => fail))
end
end
section

section
variable {P : Program} {w : World} {K : PySem.W.Frag} {mg : Str → Option Value} {base : Heap}
theorem ok_need_mode {f : Addr} {fd : FuncData} (F : Fun K "need_mode" "need_mode" s_need_mode f fd) (z_isinstance : mg "isinstance" = none) (z_str : mg "str" = none) (g_MODES : KModes K mg) :
    FnOk P w K mg base CX0 1 f fd ["value"] (sp_need_mode K) := by
  refine F.ok sc_need_mode (fun vs H Q E h => sp_need_mode_len h) (fun cdv A outer s H vs Q E hr h => ?_)
  obtain ⟨md, rfl, k⟩ := h
  have hs : Dp K H (.str md.str) (.str md.str) := .str _
  refine ⟨_, (pss_one (ps_if (PW.pt (pw_or (pt_not (pt_val (pe_callB (kisi K) (by rfl) z_isinstance (by decide +kernel) (pa_cons (pv 0) (pa_cons (pe_bltn (v := .ty "str") (by rfl) z_str (by decide +kernel) rfl) pa_nil))))) (pw_or1 (pt_cmpR (knotIn K) (pv 0) (pe_modes (by rfl) g_MODES) (by rfl))))) (pss_one ps_never) pss_nil)), ?_⟩
  (purse 16 => fail)
  refine r_notInM (g := g_MODES) md rfl ?_
  (purse 16 => fail)
  exact k _ (Same.refl _)
end
end
section
local macro_rules | `(tactic| purse 99 => fail) => `(tactic| (first | ((with_reducible refine' iteT ?_)) | ((with_reducible refine' iteF ?_)) | ((with_reducible refine' iteNT ?_)) | ((with_reducible refine' iteNF ?_)) | ((with_reducible refine' iteD ?rdA ?_); (case rdA => first | assumption | exact scE1 | exact scE2 | exact scE3 | exact scE4 | exact nonE | exact refE | exact intE | exact blE)) | ((with_reducible refine' iteDF ?rdA ?_); (case rdA => first | assumption | exact scE1 | exact scE2 | exact scE3 | exact scE4 | exact nonE | exact refE | exact intE | exact blE)) | ((with_reducible refine' iteND ?rdA ?_); (case rdA => first | assumption | exact scE1 | exact scE2 | exact scE3 | exact scE4 | exact nonE | exact refE | exact intE | exact blE)) | ((with_reducible refine' iteNDF ?rdA ?_); (case rdA => first | assumption | exact scE1 | exact scE2 | exact scE3 | exact scE4 | exact nonE | exact refE | exact intE | exact blE)) | ((with_reducible refine' dec_vint ?_)) | ((with_reducible refine' dec_vintn ?_)) | ((with_reducible refine' ifb ?_ ?_) <;> intro hc <;> (try (exfalso; first | omega | exact hc (congrArg V.int (by omega)) | exact hc (by decide +kernel) | exact absurd hc (by decide +kernel)))) | ((with_reducible refine' ifnb ?_ ?_) <;> intro hc <;> (try (exfalso; first | omega | exact hc (congrArg V.int (by omega)) | exact hc (by decide +kernel) | exact absurd hc (by decide +kernel))))))
section
variable {P : Program} {w : World} {K : PySem.W.Frag} {mg : Str → Option Value} {base : Heap}
theorem ok_mode_step {f : Addr} {fd : FuncData} (F : Fun K "mode_step" "mode_step" s_mode_step f fd)  :
    FnOk P w K mg base CX0 1 f fd ["m", "mode"] (sp_mode_step K) := by
  refine F.ok sc_mode_step (fun vs H Q E h => sp_mode_step_len h) (fun cdv A outer s H vs Q E hr h => ?_)
  obtain ⟨m, md, rfl, hm, k⟩ := h
  refine ⟨_, (pss_cons (ps_if (pt_cmpR op_eq (pv 1) pe_str (nomark _)) (pss_one (ps_ret (pe_tup (pa_cons pe_str (pa_cons (pv 0) pa_nil))))) pss_nil) (pss_cons (ps_set (i := 2) sc_mode_step.nd rfl (Or.inl rfl) (pe_disp (pps_cons pe_str pe_int (pps_cons pe_str (pe_op op_sub (pv 0) pe_int) (pps_cons pe_str (pe_op op_fdiv (pv 0) pe_int) (pps_cons pe_str (pe_op op_fdiv (pe_op op_sub (pv 0) pe_int) pe_int) pps_nil)))) (by rfl) (by rfl) (fun z => by cases z) (by decide))) (pss_one (ps_ret (pe_tup (pa_cons pe_str (pa_cons pe_int (pa_cons (pv 0) (pa_cons (pe_dget (hu_of hr) (pv 2) (pv 1) (fun _ _ => rfl)) pa_nil))))))))), ?_⟩
  by_cases hd : md = .he
  · subst hd
    (purse 16 => fail)
    exact k _ _ (by (purse 1 => fail)) StepAt.newE
  have hne : decide (V.str md.str = V.str "half_even") = false := by
    cases md with
    | he => exact absurd rfl hd
    | _ => decide +kernel
  have hst : ∀ c (H' : Hp), SqT K H' c [.str "scale", .int 1, .int m, .int (md.off m)] → StepAt K H' (.ref c) (md.step m) := fun c H' h => by
    cases md with
    | he => exact absurd rfl hd
    | _ => exact ⟨c, rfl, h⟩
  (purse 16 => fail)
  refine r_disp fun dN hdN => ?_
  refine r_pairsC ?_
  (purse 16 => fail)
  refine r_pairsC ?_
  (purse 16 => fail)
  refine r_pairsC ?_
  (purse 16 => fail)
  refine r_pairsC ?_
  (purse 16 => fail)
  refine r_pairsN ?_
  refine ⟨upd_same, offKv m, rfl, by simp [offKv], ?_⟩
  (purse 16 => fail)
  refine r_dgetI ?_
  (purse 16 => fail)
  refine ⟨dN, .int (md.off m), rfl, by rw [← offKv_at m md hd]; exact DGet.k (k := kS md.str) upd_same, ?_⟩
  (purse 16 => fail)
  refine k _ _ ?_ (hst _ _ SqT.new)
  exact Same.up (Same.upN (Same.up (Same.refl _) hdN) hdN) hN
end
end
section
local macro_rules | `(tactic| purse 99 => fail) => `(tactic| (first | ((with_reducible refine' u_differ_first ?rdA ?rdB ?rdC ?rdD ?rdE ?rdF ?_); (case rdA => (purse 2 => fail)); (case rdB => (purse 2 => fail)); (case rdC => (first | assumption | decide)); (case rdD => (first | assumption | decide)); (case rdE => (first | assumption | omega | decide)); (case rdF => (first | assumption | omega | decide)); intro fd H2 h2 fdh) | ((with_reducible refine' u_mode_step ?rdA ?_); (case rdA => (first | assumption | omega | decide)); intro ms H2 h2 mS) | ((with_reducible refine' u_need_mode ?_); intro H2 h2) | ((with_reducible refine' u_need_divisor ?rdA ?_); (case rdA => (first | assumption | omega | decide)); intro H2 h2)))
section
variable {P : Program} {w : World} {K : PySem.W.Frag} {mg : Str → Option Value} {base : Heap}
theorem ok_double_rounding {f : Addr} {fd : FuncData} (F : Fun K "double_rounding" "double_rounding" s_double_rounding f fd) (c_differ_first : Can P w K mg base 5 "differ_first" ["first", "second"] (sp_differ_first K)) (c_mode_step : Can P w K mg base 1 "mode_step" ["m", "mode"] (sp_mode_step K)) (c_need_mode : Can P w K mg base 1 "need_mode" ["value"] (sp_need_mode K)) (c_need_divisor : Can P w K mg base 2 "need_divisor" ["value", "most"] (sp_need_divisor K)) :
    FnOk P w K mg base CX0 6 f fd ["m1", "m2", "mode"] (sp_double_rounding K) := by
  refine F.ok sc_double_rounding (fun vs H Q E h => sp_double_rounding_len h) (fun cdv A outer s H vs Q E hr h => ?_)
  obtain ⟨m, n, md, rfl, hm, hn, hb, k⟩ := h
  have h1 : 1 ≤ m * n := one_le_mul hm.1 hn.1
  have p1 : Pipe.pos [md.step m, md.step n] := fun s hs => by
    simp only [List.mem_cons, List.not_mem_nil, or_false] at hs
    rcases hs with rfl | rfl
    · exact Mode.pos (by omega) md
    · exact Mode.pos (by omega) md
  have p2 : Pipe.pos [md.step (m * n)] := fun s hs => by
    simp only [List.mem_cons, List.not_mem_nil, or_false] at hs
    subst hs
    exact Mode.pos (by omega) md
  have b1 : Pipe.prod [md.step m, md.step n] ≤ 40000 := Int.le_trans (Mode.prod2 hm hn md) (by decide)
  have b2 : Pipe.prod [md.step (m * n)] ≤ 40000 := Int.le_trans (Mode.prod1 (by omega) md) (by decide)
  refine ⟨_, (pss_cons (ps_expr (pe_can c_need_divisor (hr.mono (by decide)) (by rfl) (pa_cons (pv 0) (pa_cons pe_int pa_nil)))) (pss_cons (ps_expr (pe_can c_need_divisor (hr.mono (by decide)) (by rfl) (pa_cons (pv 1) (pa_cons pe_int pa_nil)))) (pss_cons (ps_expr (pe_can c_need_mode (hr.mono (by decide)) (by rfl) (pa_cons (pv 2) pa_nil))) (pss_one (ps_ret (pe_can c_differ_first (hr.mono (by decide)) (by rfl) (pa_cons (pe_tup (pa_cons (pe_can c_mode_step (hr.mono (by decide)) (by rfl) (pa_cons (pv 0) (pa_cons (pv 2) pa_nil))) (pa_cons (pe_can c_mode_step (hr.mono (by decide)) (by rfl) (pa_cons (pv 1) (pa_cons (pv 2) pa_nil))) pa_nil))) (pa_cons (pe_tup (pa_cons (pe_can c_mode_step (hr.mono (by decide)) (by rfl) (pa_cons (pe_op op_mul (pv 0) (pv 1)) (pa_cons (pv 2) pa_nil))) pa_nil)) pa_nil)))))))), ?_⟩
  (purse 16 => fail)
  exact k _ _ (by (purse 1 => fail)) fdh
end
end
section

section
variable {P : Program} {w : World} {K : PySem.W.Frag} {mg : Str → Option Value} {base : Heap}
theorem ok_law_cell_at {f : Addr} {fd : FuncData} (F : Fun K "_law_cell_at" "_law_cell_at" s_law_cell_at f fd) (z_len : mg "len" = none) :
    FnOk P w K mg base CX0 1 f fd ["script", "k"] (sp_law_cell_at K) := by
  refine F.ok sc_law_cell_at (fun vs H Q E h => sp_law_cell_at_len h) (fun cdv A outer s H vs Q E hr h => ?_)
  obtain ⟨a, ns, x, rfl, hS, b, k⟩ := h
  refine ⟨_, (pss_cons (ps_if (pt_cmpR op_lt (pv 1) (pe_callB (klen K) (by rfl) z_len (by decide +kernel) (pa_cons (pv 0) pa_nil)) (nomark _)) (pss_one (ps_ret (pe_ix (kix_list K) (pv 0) (pv 1) (fun _ _ => rfl)))) pss_nil) (pss_one (ps_ret pe_int))), ?_⟩
  (purse 16 => fail)
  · have hi : x.toNat < ns.length := by omega
    refine r_ixL hS (v := .int ns[x.toNat]) (at_of (j := x.toNat) (by omega) (by rw [List.getElem?_map, List.getElem?_eq_getElem hi]; rfl)) ?_
    exact k _ _ (Same.refl _)
  · exact k _ _ (Same.refl _)
end
end
section

section
variable {P : Program} {w : World} {K : PySem.W.Frag} {mg : Str → Option Value} {base : Heap}
theorem ok_law_draws {f : Addr} {fd : FuncData} (F : Fun K "_law_draws" "_law_draws" s_law_draws f fd) (z_range : mg "range" = none) (z_int : mg "int" = none) :
    FnOk P w K mg base CX0 1 f fd ["cell", "many", "size"] (sp_law_draws K) := by
  refine F.ok sc_law_draws (fun vs H Q E h => sp_law_draws_len h) (fun cdv A outer s H vs Q E hr h => ?_)
  obtain ⟨c, rfl, k⟩ := h
  refine ⟨_, (pss_cons (ps_set (i := 3) sc_law_draws.nd rfl (Or.inl rfl) (pe_lst pa_nil)) (pss_cons (ps_set (i := 4) sc_law_draws.nd rfl (Or.inl rfl) (pe_op op_mul (pv 0) (pe_callTy kint1 (by rfl) z_int (by decide +kernel) (pa_cons (pe_cmpR op_ge (pv 0) (pe_op op_pow pe_int pe_int) (nomark _)) pa_nil)))) (pss_cons (ps_set (i := 5) sc_law_draws.nd rfl (Or.inl rfl) (pe_op op_mod (pv 0) pe_int)) (pss_cons (ps_for PassesOwn.never rfl (pi_range1 (by rfl) z_range (pa_cons (pe_op op_add (pv 1) pe_int) pa_nil)) (pg_name (i := 6) sc_law_draws.nd rfl (Or.inl rfl)) (pss_cons (ps_set (i := 5) sc_law_draws.nd rfl (Or.inl rfl) (pe_op op_mod (pe_op op_add (pe_op op_add (pe_op op_add (pe_op op_mul (pv 5) (pv 5)) (pe_op op_mul pe_int (pv 5))) (pv 6)) pe_int) pe_int)) (pss_one (ps_if (PW.pt (pw_and (pt_cmpR op_gt (pv 6) pe_int (nomark _)) (pw_and1 (pt_cmpR op_gt (pv 4) pe_int (nomark _))))) (pss_cons (ps_expr (pe_bm PySem.F.plainAttrs_list PySem.F.slot_list_append PySem.F.type_list_append mt_append (pv 3) (pa_cons (pe_op op_mod (pv 4) (pv 2)) pa_nil))) (pss_one (ps_set (i := 4) sc_law_draws.nd rfl (Or.inl rfl) (pe_op op_fdiv (pv 4) (pv 2))))) (pss_one (ps_if (pt_cmpR op_gt (pv 6) pe_int (nomark _)) (pss_one (ps_expr (pe_bm PySem.F.plainAttrs_list PySem.F.slot_list_append PySem.F.type_list_append mt_append (pv 3) (pa_cons (pe_op op_mod (pe_op op_fdiv (pv 5) pe_int) (pv 2)) pa_nil)))) pss_nil)))))) (pss_one (ps_ret (pv 3))))))), ?_⟩
  (purse 16 => fail)
  refine fl_range (fun i σ' H' => Same H H' ∧ ∃ (acc : List Int) (r st : Int) (w : Option V), H' pN = some (.lst (acc.map V.int)) ∧ acc.length = i - 3 ∧ (∀ z ∈ acc, 0 ≤ z) ∧ 0 ≤ st ∧ st < 2305843009213693951 ∧
    σ' = [some (.int c), some (.int 400), some (.int 1000), some (.ref pN), some (.int r), some (.int st), w]) ?_ ?_ ?_
  · exact ⟨by (purse 1 => fail), [], _, _, _, upd_same, rfl, by simp, Int.emod_nonneg _ (by decide), Int.emod_lt_of_pos _ (by decide), rfl⟩
  · rintro i σ' H' hi ⟨hS, acc, r, st, w, hp, hl, hz, s0, s1, rfl⟩
    have hi' : i < 403 := hi
    have n1 := Int.emod_nonneg (st * st + 48271 * st + (0 + (i : Int)) + 1) (b := 2305843009213693951) (by decide)
    have n2 := Int.emod_lt_of_pos (st * st + 48271 * st + (0 + (i : Int)) + 1) (b := 2305843009213693951) (by decide)
    (purse 16 => fail)
    · refine ⟨by (purse 1 => fail), acc ++ [r % 1000], _, _, _, ?_, ?_, ?_, n1, n2, rfl⟩
      · rw [upd_same, List.map_append]; rfl
      · rw [List.length_append, List.length_singleton]; omega
      · intro z hz'
        rcases List.mem_append.mp hz' with h | h
        · exact hz z h
        · rw [List.mem_singleton.mp h]; exact Int.emod_nonneg _ (by decide)
    · refine ⟨by (purse 1 => fail), acc ++ [(st * st + 48271 * st + (0 + (i : Int)) + 1) % 2305843009213693951 / 4096 % 1000], _, _, _, ?_, ?_, ?_, n1, n2, rfl⟩
      · rw [upd_same, List.map_append]; rfl
      · rw [List.length_append, List.length_singleton]; omega
      · intro z hz'
        rcases List.mem_append.mp hz' with h | h
        · exact hz z h
        · rw [List.mem_singleton.mp h]; exact Int.emod_nonneg _ (by decide)
    · exact ⟨hS, acc, _, _, _, hp, by omega, hz, n1, n2, rfl⟩
  · rintro σ' H' ⟨hS, acc, r, st, w, hp, hl, hz, s0, s1, rfl⟩
    (purse 16 => fail)
    exact k _ acc _ hS hN hp (by rw [hl]; rfl) hz
end
end
section
local macro_rules | `(tactic| purse 99 => fail) => `(tactic| (first | ((with_reducible refine' u_law_draws ?_); intro q2 ds2 H2 h2 n2 l2 e2 b2) | ((with_reducible refine' u_law_cell_at ?rdA ?rdB ?_); (case rdA => (purse 2 => fail)); (case rdB => omega); intro r2 H2 h2)))
section
variable {P : Program} {w : World} {K : PySem.W.Frag} {mg : Str → Option Value} {base : Heap}
theorem ok_law_bag {f : Addr} {fd : FuncData} (F : Fun K "_law_bag" "_law_bag" s_law_bag f fd) (c__law_draws : Can P w K mg base 1 "_law_draws" ["cell", "many", "size"] (sp_law_draws K)) (c__law_cell_at : Can P w K mg base 1 "_law_cell_at" ["script", "k"] (sp_law_cell_at K)) :
    FnOk P w K mg base CX0 2 f fd ["script", "k"] (sp_law_bag K) := by
  refine F.ok sc_law_bag (fun vs H Q E h => sp_law_bag_len h) (fun cdv A outer s H vs Q E hr h => ?_)
  obtain ⟨a, ns, x, rfl, hS, b, k⟩ := h
  refine ⟨_, (pss_one (ps_ret (pe_lst (pa_cons (pe_can c__law_draws (hr.mono (by decide)) (by rfl) (pa_cons (pe_can c__law_cell_at (hr.mono (by decide)) (by rfl) (pa_cons (pv 0) (pa_cons (pv 1) pa_nil))) (pa_cons pe_int (pa_cons pe_int pa_nil)))) (pa_cons pe_int pa_nil))))), ?_⟩
  (purse 16 => fail)
  have nb : q2 ≠ pN := ne_of_none l2 hN
  refine k _ q2 _ (by (purse 1 => fail)) (Same.free (by (purse 1 => fail)) hN) (Same.free (by (purse 1 => fail)) n2) ⟨nb, 0, ds2, upd_same, by (purse 3 => fail), e2, b2, Int.le_refl _⟩
end
end
section
local macro_rules | `(tactic| purse 99 => fail) => `(tactic| (first | ((with_reducible refine' u_law_bag ?rdA ?rdB ?_); (case rdA => (purse 2 => fail)); (case rdB => omega); intro b2 d2 H2 h2 n2 nd0 bg2)))
section
variable {P : Program} {w : World} {K : PySem.W.Frag} {mg : Str → Option Value} {base : Heap}
theorem ok_law_bags {f : Addr} {fd : FuncData} (F : Fun K "_law_bags" "_law_bags" s_law_bags f fd) (c__law_bag : Can P w K mg base 2 "_law_bag" ["script", "k"] (sp_law_bag K)) (z_range : mg "range" = none) (z_max : mg "max" = none) (z_min : mg "min" = none) (z_len : mg "len" = none) :
    FnOk P w K mg base CX0 3 f fd ["script", "limit"] (sp_law_bags K) := by
  refine F.ok sc_law_bags (fun vs H Q E h => sp_law_bags_len h) (fun cdv A outer s H vs Q E hr h => ?_)
  obtain ⟨a, ns, x, rfl, hS, b, k⟩ := h
  refine ⟨_, (pss_one (ps_ret (pe_lc (own := [("k", 2)]) (by rfl) sc_law_bags.nd (pi_range1 (by rfl) z_range (pa_cons (pe_callB kmax2 (by rfl) z_max (by decide +kernel) (pa_cons pe_int (pa_cons (pe_callB kmin2 (by rfl) z_min (by decide +kernel) (pa_cons (pv 1) (pa_cons (pe_callB (klen K) (by rfl) z_len (by decide +kernel) (pa_cons (pv 0) pa_nil)) pa_nil))) pa_nil))) pa_nil)) (blkOk_by (own := [("k", 2)]) (N := n_law_bags) (sc := defScope s_law_bags) (by decide +kernel)) (fun _ _ _ _ _ => (pg_name (i := 2) sc_law_bags.nd rfl (Or.inl rfl))) (fun _ _ _ _ _ => pts_nil) (fun _ _ _ _ _ => (pe_can c__law_bag (hr.mono (by decide)) (by rfl) (pa_cons (pv 0) (pa_cons (pv 2) pa_nil))))))), ?_⟩
  (purse 16 => fail)
  generalize hn : (if (if (ns.length : Int) < x then (ns.length : Int) else x) > 1 then if (ns.length : Int) < x then (ns.length : Int) else x else 1).toNat = n
  have hn10 : n ≤ 10 := by omega
  refine fun D hD => lc_range (lo := 0) (n := n) (fun i H' => ∃ bs : List (Addr × Addr), bs.length = i ∧ Same H H' ∧ BagsAt H' D bs ∧ (∀ p ∈ bs, D ≠ p.2)) ?_ ?_ ?_
  · exact ⟨[], rfl, Same.up (Same.refl _) hD, ⟨upd_same, by simp, List.Pairwise.nil, by simp⟩, by simp⟩
  · rintro i H' hi ⟨bs, hbl, hS', ⟨b1, b2', b3, b4⟩, hf⟩
    refine ⟨rfl, ?_⟩
    (purse 16 => fail)
    have nb : D ≠ b2 := ne_of_none b1 n2
    have nd : D ≠ d2 := ne_of_none b1 nd0
    refine ⟨_, by (purse 3 => fail), ?_, bs ++ [(b2, d2)], by rw [List.length_append, hbl]; rfl, by (purse 1 => fail), ⟨?_, ?_, ?_, ?_⟩, ?_⟩
    · exact sz_lt (by rw [List.length_map]; omega)
    · rw [upd_same, List.map_append]; rfl
    · intro p hp
      rcases List.mem_append.mp hp with h | h
      · exact ((b2' p h).hs h2).hn (b4 p h) (hf p h)
      · rw [List.mem_singleton.mp h]
        exact bg2.hn nb nd
    · rw [List.pairwise_append]
      refine ⟨b3, List.pairwise_singleton _ _, fun p hp r hr => ?_⟩
      rw [List.mem_singleton.mp hr]
      exact ⟨(b2' p hp).neb n2, (b2' p hp).neb nd0⟩
    · intro p hp
      rcases List.mem_append.mp hp with h | h
      · exact b4 p h
      · rw [List.mem_singleton.mp h]; exact nb
    · intro p hp
      rcases List.mem_append.mp hp with h | h
      · exact hf p h
      · rw [List.mem_singleton.mp h]; exact nd
  · rintro H' ⟨bs, hbl, hS', hb, hf⟩
    exact k _ bs _ hS' hD hb
end
end
section

section
variable {P : Program} {w : World} {K : PySem.W.Frag} {mg : Str → Option Value} {base : Heap}
theorem ok_law_take {f : Addr} {fd : FuncData} (F : Fun K "_law_take" "_law_take" s_law_take f fd) (z_len : mg "len" = none) :
    FnOk P w K mg base CX0 1 f fd ["bag", "many"] (sp_law_take K) := by
  refine F.ok sc_law_take (fun vs H Q E h => sp_law_take_len h) (fun cdv A outer s H vs Q E hr h => ?_)
  obtain ⟨b, d, m, rfl, ⟨ne, n, ds, hb, hd, hl, hz, hn⟩, hm, k⟩ := h
  refine ⟨_, (pss_cons (ps_asg (pe_op op_add (pe_ix (kix_list K) (pv 0) pe_int (fun _ _ => rfl)) pe_int) (pg_sub (pv 0) pe_int set_list)) (pss_one (ps_ret (pe_op op_mod (pe_ix (kix_list K) (pe_ix (kix_list K) (pv 0) pe_int (fun _ _ => rfl)) (pe_op op_mod (pe_ix (kix_list K) (pv 0) pe_int (fun _ _ => rfl)) (pe_callB (klen K) (by rfl) z_len (by decide +kernel) (pa_cons (pe_ix (kix_list K) (pv 0) pe_int (fun _ _ => rfl)) pa_nil))) (fun _ _ => rfl)) (pv 1))))), ?_⟩
  have hB : SqL K H b [.ref d, .int n] := SqL.of hb
  have hd1 : L2.upd H b (HO.lst ([V.ref d, V.int n].set (Int.toNat 1) (V.int (n + 1)))) d = some (.lst (ds.map V.int)) := HAt.hn ne hd
  (purse 16 => fail)
  have m1 := Int.emod_nonneg (n + 1) (b := (ds.length : Int)) (by omega)
  have m2 := Int.emod_lt_of_pos (n + 1) (b := (ds.length : Int)) (by omega)
  have hi : ((n + 1) % (ds.length : Int)).toNat < ds.length := by omega
  refine r_ixL (SqL.of hd1) (v := .int ds[((n + 1) % (ds.length : Int)).toNat]) (at_of (j := ((n + 1) % (ds.length : Int)).toNat) (by omega) (by rw [List.getElem?_map, List.getElem?_eq_getElem hi]; rfl)) ?_
  (purse 16 => fail)
  refine k _ _ ⟨fun a o na e => HAt.hn na e, (TKeep.refl).upL hb, ⟨ne, n + 1, ds, upd_same, hd1, hl, hz, by omega⟩⟩ (Int.emod_nonneg _ (by omega)) (Int.emod_lt_of_pos _ hm)
end
end
section
local macro_rules | `(tactic| purse 99 => fail) => `(tactic| (first | ((with_reducible refine' u_law_take (K := K) ?rdA ?rdB ?_); (case rdA => (purse 2 => fail)); (case rdB => omega); intro r2 H2 h2 r2l r2u)))
section
variable {P : Program} {w : World} {K : PySem.W.Frag} {mg : Str → Option Value} {base : Heap}
theorem ok_law_far_draw {f : Addr} {fd : FuncData} (F : Fun K "_law_far_draw" "_law_far_draw" s_law_far_draw f fd) (c__law_take : Can P w K mg base 1 "_law_take" ["bag", "many"] (sp_law_take K)) :
    FnOk P w K mg base CX0 2 f fd ["bag", "many"] (sp_law_far_draw K) := by
  refine F.ok sc_law_far_draw (fun vs H Q E h => sp_law_far_draw_len h) (fun cdv A outer s H vs Q E hr h => ?_)
  obtain ⟨b, d, m, rfl, hb, hm, k⟩ := h
  refine ⟨_, (pss_cons (ps_par (i := 2) (j := 3) (by rfl) sc_law_far_draw.nd rfl rfl (by decide) rfl rfl (pa_cons pe_int (pa_cons (pv 1) pa_nil)) (by rfl)) (pss_cons (ps_while PassesOwn.never (pt_cmpR op_gt (pv 3) pe_int (nomark _)) (pss_one (ps_par (i := 2) (j := 3) (by rfl) sc_law_far_draw.nd rfl rfl (by decide) rfl rfl (pa_cons (pe_op op_add (pe_op op_mul pe_int (pv 2)) (pe_can c__law_take (hr.mono (by decide)) (by rfl) (pa_cons (pv 0) (pa_cons pe_int pa_nil)))) (pa_cons (pe_op op_fdiv (pv 3) pe_int) pa_nil)) (by rfl)))) (pss_one (ps_ret (pe_ix (kix_list K) (pe_lst (pa_cons (pe_op op_mod (pv 2) (pv 1)) (pa_cons pe_int (pa_cons (pe_op op_sub (pv 1) pe_int) (pa_cons (pe_op op_mod (pv 2) (pv 1)) pa_nil))))) (pe_can c__law_take (hr.mono (by decide)) (by rfl) (pa_cons (pv 0) (pa_cons pe_int pa_nil))) (fun _ _ => rfl)))))), ?_⟩
  (purse 16 => fail)
  refine s_while (fun n σ' H' => Bs K b d H H' ∧ ∃ f u : Int, n = u.toNat ∧ σ' = [some (.ref b), some (.int m), some (.int f), some (.int u)]) _ ⟨Bs.refl hb, _, _, rfl, rfl⟩ ?_
  rintro n σ' H' ⟨hB, f, u, rfl, rfl⟩
  have hb' := hB.bag
  (purse 16 => fail)
  · refine ⟨fun σ3 H3 => Bs K b d H H3 ∧ ∃ f3 : Int, σ3 = [some (.ref b), some (.int m), some (.int f3), some (.int (u / 1000))], ?_, ?_⟩
    · rintro σ3 H3 ⟨h3, f3, rfl⟩
      exact ⟨(u / 1000).toNat, by omega, h3, f3, _, rfl, rfl⟩
    · (purse 16 => fail)
      exact ⟨by (purse 6 => fail), _, rfl⟩
  · have fm := emod_b (x := f) hm
    (purse 16 => fail)
    obtain ⟨z, hz, z0, z1⟩ := pick4 r2l r2u (lo := 0) (hi := m - 1) (a := f % m) (b := 0) (c := m - 1) (e := f % m) (by omega) (by omega) (by omega) (by omega)
    refine r_ixL (by (purse 2 => fail)) hz ?_
    exact k _ _ (by (purse 6 => fail)) (by omega) (by omega)
end
end
section
local macro_rules | `(tactic| purse 99 => fail) => `(tactic| (first | ((with_reducible refine' u_apply ?rdA ?rdB ?rdC ?_); (case rdA => (purse 2 => fail)); (case rdB => (first | assumption | decide)); (case rdC => (first | assumption | omega | (constructor <;> omega))); intro H2 h2) | ((with_reducible refine' iteT ?_)) | ((with_reducible refine' iteF ?_)) | ((with_reducible refine' iteNT ?_)) | ((with_reducible refine' iteNF ?_)) | ((with_reducible refine' iteD ?rdA ?_); (case rdA => first | assumption | exact scE1 | exact scE2 | exact scE3 | exact scE4 | exact nonE | exact refE | exact intE | exact blE)) | ((with_reducible refine' iteDF ?rdA ?_); (case rdA => first | assumption | exact scE1 | exact scE2 | exact scE3 | exact scE4 | exact nonE | exact refE | exact intE | exact blE)) | ((with_reducible refine' iteND ?rdA ?_); (case rdA => first | assumption | exact scE1 | exact scE2 | exact scE3 | exact scE4 | exact nonE | exact refE | exact intE | exact blE)) | ((with_reducible refine' iteNDF ?rdA ?_); (case rdA => first | assumption | exact scE1 | exact scE2 | exact scE3 | exact scE4 | exact nonE | exact refE | exact intE | exact blE)) | ((with_reducible refine' dec_vint ?_)) | ((with_reducible refine' dec_vintn ?_)) | ((with_reducible refine' ifb ?_ ?_) <;> intro hc <;> (try (exfalso; first | omega | exact hc (congrArg V.int (by omega)) | exact hc (by decide +kernel) | exact absurd hc (by decide +kernel)))) | ((with_reducible refine' ifnb ?_ ?_) <;> intro hc <;> (try (exfalso; first | omega | exact hc (congrArg V.int (by omega)) | exact hc (by decide +kernel) | exact absurd hc (by decide +kernel))))))
section
variable {P : Program} {w : World} {K : PySem.W.Frag} {mg : Str → Option Value} {base : Heap}
theorem ok_law_conversion {f : Addr} {fd : FuncData} (F : Fun K "_law_conversion" "_law_conversion" s_law_conversion f fd) (c_count_repeated : Can P w K mg base 6 "count_repeated" ["pipeline", "low", "high"] (sp_count_repeated K)) (c_count_values : Can P w K mg base 6 "count_values" ["pipeline", "low", "high"] (sp_count_values K)) (c_drift : Can P w K mg base 6 "drift" ["pipeline"] (sp_drift K)) (c_collision : Can P w K mg base 5 "collision" ["pipeline"] (sp_collision K)) (c_period : Can P w K mg base 5 "period" ["pipeline"] (sp_period K)) (c_preimage : Can P w K mg base 5 "preimage" ["pipeline", "y"] (sp_preimage K)) (c_first_inverse : Can P w K mg base 5 "first_inverse" ["pipeline"] (sp_first_inverse K)) (c_undoes : Can P w K mg base 5 "undoes" ["first", "second"] (sp_undoes K)) (c_apply : Can P w K mg base 5 "apply" ["pipeline", "x"] (sp_apply K)) :
    FnOk P w K mg base CX0 7 f fd ["x"] (sp_law_conversion K) := by
  refine F.ok sc_law_conversion (fun vs H Q E h => sp_law_conversion_len h) (fun cdv A outer s H vs Q E hr h => ?_)
  obtain ⟨x, rfl, hx, k⟩ := h
  have va : ∀ y, Pipe.val [.sc 2 3 0] y = (2 * y + 0) / 3 := fun _ => rfl
  have vb : ∀ y, Pipe.val [.sc 3 2 1] y = (3 * y + 1) / 2 := fun _ => rfl
  have v1 := va (3 * x)
  have v2 := va (3 * x + 1)
  have v3 := va (3 * x + 2)
  refine ⟨_, (pss_cons (ps_asg (pe_tup (pa_cons (pe_tup (pa_cons (pe_tup (pa_cons pe_str (pa_cons pe_int (pa_cons pe_int (pa_cons pe_int pa_nil))))) pa_nil)) (pa_cons (pe_tup (pa_cons (pe_tup (pa_cons pe_str (pa_cons pe_int (pa_cons pe_int (pa_cons pe_int pa_nil))))) pa_nil)) pa_nil))) (kpg_tup K (n := 2) (pgs_cons (pg_name (i := 1) sc_law_conversion.nd rfl (Or.inl rfl)) (pgs_cons (pg_name (i := 2) sc_law_conversion.nd rfl (Or.inl rfl)) pgs_nil)))) (pss_cons (ps_if (PW.pt (pw_or (pt_cmpR op_ne (pe_can c_apply (hr.mono (by decide)) (by rfl) (pa_cons (pv 1) (pa_cons (pe_op op_mul pe_int (pv 0)) pa_nil))) (pe_op op_mul pe_int (pv 0)) (nomark _)) (pw_or1 (pt_cmpR op_ne (pe_can c_apply (hr.mono (by decide)) (by rfl) (pa_cons (pv 1) (pa_cons (pe_op op_add (pe_op op_mul pe_int (pv 0)) pe_int) pa_nil))) (pe_op op_mul pe_int (pv 0)) (nomark _))))) (pss_one (ps_ret pe_bl)) pss_nil) (pss_cons (ps_if (pt_cmpR op_ne (pe_can c_apply (hr.mono (by decide)) (by rfl) (pa_cons (pv 1) (pa_cons (pe_op op_add (pe_op op_mul pe_int (pv 0)) pe_int) pa_nil))) (pe_op op_add (pe_op op_mul pe_int (pv 0)) pe_int) (nomark _)) (pss_one (ps_ret pe_bl)) pss_nil) (pss_cons (ps_if (PW.pt (pw_or (pt_cmpR op_notBl (pe_can c_undoes (hr.mono (by decide)) (by rfl) (pa_cons (pv 1) (pa_cons (pv 2) pa_nil))) pe_bl (nomark _)) (pw_or1 (pt_cmpR op_notBl (pe_can c_undoes (hr.mono (by decide)) (by rfl) (pa_cons (pv 2) (pa_cons (pv 1) pa_nil))) pe_bl (nomark _))))) (pss_one (ps_ret pe_bl)) pss_nil) (pss_cons (ps_if (pt_cmpR (kneD K hr.units) (pe_can c_first_inverse (hr.mono (by decide)) (by rfl) (pa_cons (pv 1) pa_nil)) (pv 2) (nomark _)) (pss_one (ps_ret pe_bl)) pss_nil) (pss_cons (ps_if (pt_cmpR (kneD K hr.units) (pe_can c_preimage (hr.mono (by decide)) (by rfl) (pa_cons (pv 1) (pa_cons (pe_op op_mul pe_int (pv 0)) pa_nil))) (pe_tup (pa_cons (pe_op op_mul pe_int (pv 0)) (pa_cons (pe_op op_add (pe_op op_mul pe_int (pv 0)) pe_int) pa_nil))) (nomark _)) (pss_one (ps_ret pe_bl)) pss_nil) (pss_cons (ps_if (pt_cmpR (kneD K hr.units) (pe_can c_preimage (hr.mono (by decide)) (by rfl) (pa_cons (pv 1) (pa_cons (pe_op op_add (pe_op op_mul pe_int (pv 0)) pe_int) pa_nil))) (pe_tup (pa_cons (pe_op op_add (pe_op op_mul pe_int (pv 0)) pe_int) (pa_cons (pe_op op_add (pe_op op_mul pe_int (pv 0)) pe_int) pa_nil))) (nomark _)) (pss_one (ps_ret pe_bl)) pss_nil) (pss_cons (ps_if (PW.pt (pw_or (pt_cmpR (kneD K hr.units) (pe_can c_period (hr.mono (by decide)) (by rfl) (pa_cons (pe_op (kcatA K) (pv 1) (pv 2)) pa_nil)) (pe_tup (pa_cons pe_int (pa_cons pe_int pa_nil))) (nomark _)) (pw_or (pt_cmpR op_ne (pe_can c_collision (hr.mono (by decide)) (by rfl) (pa_cons (pv 1) pa_nil)) pe_int (nomark _)) (pw_or1 (pt_cmpR (kneD K hr.units) (pe_can c_drift (hr.mono (by decide)) (by rfl) (pa_cons (pv 1) pa_nil)) (pe_tup (pa_cons (pe_tup (pa_cons (pe_un un_neg pe_int) (pa_cons pe_int pa_nil))) (pa_cons (pe_tup (pa_cons pe_int (pa_cons pe_int pa_nil))) pa_nil))) (nomark _)))))) (pss_one (ps_ret pe_bl)) pss_nil) (pss_one (ps_ret (pe_and (pe_cmpR op_eq (pe_can c_count_values (hr.mono (by decide)) (by rfl) (pa_cons (pv 2) (pa_cons pe_int (pa_cons pe_int pa_nil)))) pe_int (nomark _)) (pe_one (pe_cmpR op_eq (pe_can c_count_repeated (hr.mono (by decide)) (by rfl) (pa_cons (pv 1) (pa_cons pe_int (pa_cons pe_int pa_nil)))) pe_int (nomark _)))))))))))))), ?_⟩
  (purse 16 => fail)
  refine u_undoes (p := [.sc 2 3 0]) (q := [.sc 3 2 1]) (by (purse 2 => fail)) (by (purse 2 => fail)) (by decide +kernel) (by decide +kernel) fun ub H5 h5 ubh => ?_
  have e1 : ub = true := ubh.mpr fun y => by rw [va, vb]; omega
  subst e1
  (purse 16 => fail)
  refine u_undoes (p := [.sc 3 2 1]) (q := [.sc 2 3 0]) (by (purse 2 => fail)) (by (purse 2 => fail)) (by decide +kernel) (by decide +kernel) fun ub2 H6 h6 ubh2 => ?_
  have e2 : ub2 = false := by
    cases ub2 with
    | false => rfl
    | true => have := ubh2.mp rfl 1; rw [va, vb] at this; omega
  subst e2
  (purse 16 => fail)
  have L0 : Least (Pipe.val [.sc 2 3 0]) 3 2 := least_of (d := 3) (r := 2) (by decide +kernel)
  have L1 : Least (Pipe.val ([.sc 2 3 0] ++ [.sc 3 2 1])) 3 3 := least_of (d := 3) (r := 3) (by decide +kernel)
  have fa : ∀ y, Pipe.first [.sc 2 3 0] y = (3 * y + 2 - 1 - 0) / 2 := fun _ => rfl
  have a1 : Pipe.first [.sc 2 3 0] (2 * x) = 3 * x := by rw [fa]; omega
  have a2 : Pipe.last [.sc 2 3 0] (2 * x) = 3 * x + 1 := by unfold Pipe.last; rw [fa]; omega
  have a3 : Pipe.first [.sc 2 3 0] (2 * x + 1) = 3 * x + 2 := by rw [fa]; omega
  have a4 : Pipe.last [.sc 2 3 0] (2 * x + 1) = 3 * x + 2 := by unfold Pipe.last; rw [fa]; omega
  refine u_first_inverse (p := [.sc 2 3 0]) (by (purse 2 => fail)) (by decide +kernel) fun iv H7 h7 ivd => ?_
  rw [show invD false [.sc 2 3 0] = pipeD [.sc 3 2 1] from rfl] at ivd
  (purse 16 => fail)
  refine r_neSelf (d := pipeD [.sc 3 2 1]) ivd (PipeAt.dp (by (purse 2 => fail))) (shaped_pipe _) ⟨false, rfl, ?_⟩
  (purse 16 => fail)
  refine u_preimage (p := [.sc 2 3 0]) (by (purse 2 => fail)) (by decide +kernel) (by omega) fun pv H8 h8 pvd => ?_
  rw [ivD, a1, a2, if_pos (by omega)] at pvd
  (purse 16 => fail)
  refine r_neSelf (d := .tuple [.int (3 * x), .int (3 * x + 1)]) (by (purse 2 => fail)) (by (purse 13 => fail)) (shaped_intsT [3 * x, 3 * x + 1]) ⟨false, rfl, ?_⟩
  (purse 16 => fail)
  refine u_preimage (p := [.sc 2 3 0]) (by (purse 2 => fail)) (by decide +kernel) (by omega) fun pv2 H9 h9 pvd2 => ?_
  rw [ivD, a3, a4, if_pos (by omega)] at pvd2
  (purse 16 => fail)
  refine r_neSelf (d := .tuple [.int (3 * x + 2), .int (3 * x + 2)]) (by (purse 2 => fail)) (by (purse 13 => fail)) (shaped_intsT [3 * x + 2, 3 * x + 2]) ⟨false, rfl, ?_⟩
  (purse 16 => fail)
  refine u_period (p := [.sc 2 3 0] ++ [.sc 3 2 1]) (by (purse 2 => fail)) (by decide +kernel) fun pt pP pR H10 h10 pst ppl => ?_
  obtain ⟨rfl, rfl⟩ := ppl.unique L1
  (purse 16 => fail)
  refine r_neSelf (d := .tuple [.int 3, .int 3]) (dpIntsT (ns := [3, 3]) (by (show SqT K _ pt [.int 3, .int 3]); (purse 2 => fail))) (by (purse 13 => fail)) (shaped_intsT [3, 3]) ⟨false, rfl, ?_⟩
  (purse 16 => fail)
  refine u_collision (p := [.sc 2 3 0]) (by (purse 2 => fail)) (by decide +kernel) fun cP cR H11 h11 cpl => ?_
  obtain ⟨rfl, rfl⟩ := cpl.unique L0
  rw [show optV (hitL (Pipe.val [.sc 2 3 0]) (ordL (Int.toNat 3))) = V.int 0 from congrArg optV (show hitL (Pipe.val [.sc 2 3 0]) (ordL (Int.toNat 3)) = Option.some 0 from by decide +kernel)]
  (purse 16 => fail)
  refine u_drift (p := [.sc 2 3 0]) (by (purse 2 => fail)) (by decide +kernel) fun dv dP dR dlo dhi H12 h12 ddp dpl dmn dmx => ?_
  obtain ⟨rfl, rfl⟩ := dpl.unique L0
  have el := dmn.uniq (m' := -2) ⟨by decide +kernel, by decide +kernel⟩
  have eh := dmx.uniq (m' := 0) ⟨by decide +kernel, by decide +kernel⟩
  subst el eh
  rw [show PyData.tuple [frD (-2) 3, frD 0 3] = .tuple [.tuple [.int (-2), .int 3], .tuple [.int 0, .int 1]] from rfl] at ddp
  (purse 16 => fail)
  refine r_neSelf (d := .tuple [.tuple [.int (-2), .int 3], .tuple [.int 0, .int 1]]) (by (purse 2 => fail)) (by (purse 13 => fail)) (by decide +kernel) ⟨false, rfl, ?_⟩
  (purse 16 => fail)
  refine u_count_values (p := [.sc 3 2 1]) (by (purse 2 => fail)) (by decide +kernel) (by decide) fun H13 h13 => ?_
  rw [show cntV [.sc 3 2 1] false 0 299 = 200 from by decide +kernel]
  (purse 16 => fail)
  refine u_count_repeated (p := [.sc 2 3 0]) (by (purse 2 => fail)) (by decide +kernel) (by decide) fun H14 h14 => ?_
  rw [show cntV [.sc 2 3 0] true 0 199 = 100 from by decide +kernel]
  (purse 16 => fail)
  exact k _ (by (purse 1 => fail))
end
end
section
local macro_rules | `(tactic| purse 99 => fail) => `(tactic| (first | ((with_reducible refine' u_last_at_most ?rdA ?rdB ?rdC ?_); (case rdA => (purse 2 => fail)); (case rdB => (first | assumption | decide)); (case rdC => (first | assumption | omega | (constructor <;> omega))); intro H2 h2) | ((with_reducible refine' u_first_at_least ?rdA ?rdB ?rdC ?_); (case rdA => (purse 2 => fail)); (case rdB => (first | assumption | decide)); (case rdC => (first | assumption | omega | (constructor <;> omega))); intro H2 h2) | ((with_reducible refine' u_apply ?rdA ?rdB ?rdC ?_); (case rdA => (purse 2 => fail)); (case rdB => (first | assumption | decide)); (case rdC => (first | assumption | omega | (constructor <;> omega))); intro H2 h2) | ((with_reducible refine' iteT ?_)) | ((with_reducible refine' iteF ?_)) | ((with_reducible refine' iteNT ?_)) | ((with_reducible refine' iteNF ?_)) | ((with_reducible refine' iteD ?rdA ?_); (case rdA => first | assumption | exact scE1 | exact scE2 | exact scE3 | exact scE4 | exact nonE | exact refE | exact intE | exact blE)) | ((with_reducible refine' iteDF ?rdA ?_); (case rdA => first | assumption | exact scE1 | exact scE2 | exact scE3 | exact scE4 | exact nonE | exact refE | exact intE | exact blE)) | ((with_reducible refine' iteND ?rdA ?_); (case rdA => first | assumption | exact scE1 | exact scE2 | exact scE3 | exact scE4 | exact nonE | exact refE | exact intE | exact blE)) | ((with_reducible refine' iteNDF ?rdA ?_); (case rdA => first | assumption | exact scE1 | exact scE2 | exact scE3 | exact scE4 | exact nonE | exact refE | exact intE | exact blE)) | ((with_reducible refine' dec_vint ?_)) | ((with_reducible refine' dec_vintn ?_)) | ((with_reducible refine' ifb ?_ ?_) <;> intro hc <;> (try (exfalso; first | omega | exact hc (congrArg V.int (by omega)) | exact hc (by decide +kernel) | exact absurd hc (by decide +kernel)))) | ((with_reducible refine' ifnb ?_ ?_) <;> intro hc <;> (try (exfalso; first | omega | exact hc (congrArg V.int (by omega)) | exact hc (by decide +kernel) | exact absurd hc (by decide +kernel))))))
section
variable {P : Program} {w : World} {K : PySem.W.Frag} {mg : Str → Option Value} {base : Heap}
theorem ok_law_halving {f : Addr} {fd : FuncData} (F : Fun K "_law_halving" "_law_halving" s_law_halving f fd) (c_last_at_most : Can P w K mg base 5 "last_at_most" ["pipeline", "y"] (sp_last_at_most K)) (c_first_at_least : Can P w K mg base 5 "first_at_least" ["pipeline", "y"] (sp_first_at_least K)) (c_as_single : Can P w K mg base 6 "as_single" ["pipeline"] (sp_as_single K)) (c_count_equal : Can P w K mg base 6 "count_equal" ["first", "second", "low", "high"] (sp_count_equal K)) (c_first_above : Can P w K mg base 6 "first_above" ["first", "second"] (sp_first_above K)) (c_spread : Can P w K mg base 6 "spread" ["pipeline"] (sp_spread K)) (c_apply : Can P w K mg base 5 "apply" ["pipeline", "x"] (sp_apply K)) (c_first_difference : Can P w K mg base 6 "first_difference" ["first", "second"] (sp_first_difference K)) :
    FnOk P w K mg base CX0 7 f fd ["x"] (sp_law_halving K) := by
  refine F.ok sc_law_halving (fun vs H Q E h => sp_law_halving_len h) (fun cdv A outer s H vs Q E hr h => ?_)
  obtain ⟨x, rfl, hx, k⟩ := h
  have vd : ∀ y, Pipe.val [.sc 1 2 0] y = (1 * y + 0) / 2 := fun _ => rfl
  have vu : ∀ y, Pipe.val [.sc 1 2 1] y = (1 * y + 1) / 2 := fun _ => rfl
  have ve : ∀ y, Pipe.val [.ev 2] y = if 2 * (y % 2) = 2 then y / 2 + y / 2 % 2 else y / 2 + (if 2 < 2 * (y % 2) then 1 else 0) := fun _ => rfl
  have v1 : Pipe.val [.ev 2] (4 * x + 1) = 2 * x := by rw [ve]; split <;> (try split) <;> omega
  have v2 : Pipe.val [.ev 2] (4 * x + 3) = 2 * x + 2 := by rw [ve]; split <;> (try split) <;> omega
  have eu : ∀ y, Pipe.val [.ev 2] y ≤ Pipe.val [.sc 1 2 1] y := fun y => by rw [ve, vu]; split <;> (try split) <;> omega
  have du : ∀ y, Pipe.val [.sc 1 2 0] y ≤ Pipe.val [.sc 1 2 1] y := fun y => by rw [vd, vu]; omega
  have fe : ∀ y, Pipe.first [.ev 2] y = if (2 : Int) % 2 = 1 then 2 * y - 2 / 2 else 2 * y - 2 / 2 + y % 2 := fun _ => rfl
  have f1 : Pipe.first [.ev 2] (2 * x) = 4 * x - 1 := by rw [fe, if_neg (by decide)]; omega
  have f2 : Pipe.last [.ev 2] (2 * x) = 4 * x + 1 := by unfold Pipe.last; rw [fe, if_neg (by decide)]; omega
  have Le : Least (Pipe.val [.ev 2]) 4 2 := least_of (d := 4) (r := 2) (by decide +kernel)
  have Ld : Least (Pipe.val ([.sc 1 2 0] ++ [.sc 1 2 0])) 4 1 := least_of (d := 4) (r := 1) (by decide +kernel)
  refine ⟨_, (pss_cons (ps_asg (pe_tup (pa_cons (pe_tup (pa_cons (pe_tup (pa_cons pe_str (pa_cons pe_int (pa_cons pe_int (pa_cons pe_int pa_nil))))) pa_nil)) (pa_cons (pe_tup (pa_cons (pe_tup (pa_cons pe_str (pa_cons pe_int pa_nil))) pa_nil)) (pa_cons (pe_tup (pa_cons (pe_tup (pa_cons pe_str (pa_cons pe_int (pa_cons pe_int (pa_cons pe_int pa_nil))))) pa_nil)) pa_nil)))) (kpg_tup K (n := 3) (pgs_cons (pg_name (i := 1) sc_law_halving.nd rfl (Or.inl rfl)) (pgs_cons (pg_name (i := 2) sc_law_halving.nd rfl (Or.inl rfl)) (pgs_cons (pg_name (i := 3) sc_law_halving.nd rfl (Or.inl rfl)) pgs_nil))))) (pss_cons (ps_if (PW.pt (pw_or (pt_cmpR op_ne (pe_can c_first_difference (hr.mono (by decide)) (by rfl) (pa_cons (pv 1) (pa_cons (pv 3) pa_nil))) (pe_un un_neg pe_int) (nomark _)) (pw_or1 (pt_cmpR op_ne (pe_can c_first_difference (hr.mono (by decide)) (by rfl) (pa_cons (pv 2) (pa_cons (pv 3) pa_nil))) pe_int (nomark _))))) (pss_one (ps_ret pe_bl)) pss_nil) (pss_cons (ps_if (pt_cmpR op_ne (pe_can c_first_difference (hr.mono (by decide)) (by rfl) (pa_cons (pv 2) (pa_cons (pv 1) pa_nil))) (pe_un un_neg pe_int) (nomark _)) (pss_one (ps_ret pe_bl)) pss_nil) (pss_cons (ps_if (PW.pt (pw_or (pt_cmpR op_ne (pe_can c_apply (hr.mono (by decide)) (by rfl) (pa_cons (pv 2) (pa_cons (pe_op op_add (pe_op op_mul pe_int (pv 0)) pe_int) pa_nil))) (pe_op op_mul pe_int (pv 0)) (nomark _)) (pw_or (pt_cmpR op_ne (pe_can c_apply (hr.mono (by decide)) (by rfl) (pa_cons (pv 2) (pa_cons (pe_op op_add (pe_op op_mul pe_int (pv 0)) pe_int) pa_nil))) (pe_op op_add (pe_op op_mul pe_int (pv 0)) pe_int) (nomark _)) (pw_or1 (pt_cmpR (kneD K hr.units) (pe_can c_spread (hr.mono (by decide)) (by rfl) (pa_cons (pv 2) pa_nil)) (pe_tup (pa_cons pe_int (pa_cons pe_int pa_nil))) (nomark _)))))) (pss_one (ps_ret pe_bl)) pss_nil) (pss_cons (ps_if (PW.pt (pw_or (pt_cmpR op_ne (pe_can c_first_above (hr.mono (by decide)) (by rfl) (pa_cons (pv 3) (pa_cons (pv 2) pa_nil))) pe_int (nomark _)) (pw_or1 (pt_cmpR op_notN (pe_can c_first_above (hr.mono (by decide)) (by rfl) (pa_cons (pv 2) (pa_cons (pv 3) pa_nil))) pe_non (nomark _))))) (pss_one (ps_ret pe_bl)) pss_nil) (pss_cons (ps_if (pt_cmpR op_notN (pe_can c_first_above (hr.mono (by decide)) (by rfl) (pa_cons (pv 1) (pa_cons (pv 3) pa_nil))) pe_non (nomark _)) (pss_one (ps_ret pe_bl)) pss_nil) (pss_cons (ps_if (PW.pt (pw_or (pt_cmpR op_ne (pe_can c_count_equal (hr.mono (by decide)) (by rfl) (pa_cons (pv 2) (pa_cons (pv 3) (pa_cons pe_int (pa_cons pe_int pa_nil))))) pe_int (nomark _)) (pw_or1 (pt_cmpR op_ne (pe_can c_count_equal (hr.mono (by decide)) (by rfl) (pa_cons (pv 1) (pa_cons (pv 3) (pa_cons pe_int (pa_cons pe_int pa_nil))))) pe_int (nomark _))))) (pss_one (ps_ret pe_bl)) pss_nil) (pss_cons (ps_if (PW.pt (pw_or (pt_cmpR op_notN (pe_can c_as_single (hr.mono (by decide)) (by rfl) (pa_cons (pv 2) pa_nil)) pe_non (nomark _)) (pw_or1 (pt_cmpR (kneD K hr.units) (pe_can c_as_single (hr.mono (by decide)) (by rfl) (pa_cons (pe_op (kcatA K) (pv 1) (pv 1)) pa_nil)) (pe_tup (pa_cons pe_str (pa_cons pe_int (pa_cons pe_int (pa_cons pe_int pa_nil))))) (nomark _))))) (pss_one (ps_ret pe_bl)) pss_nil) (pss_one (ps_ret (pe_and (pe_cmpR op_eq (pe_can c_first_at_least (hr.mono (by decide)) (by rfl) (pa_cons (pv 2) (pa_cons (pe_op op_mul pe_int (pv 0)) pa_nil))) (pe_op op_sub (pe_op op_mul pe_int (pv 0)) pe_int) (nomark _)) (pe_one (pe_cmpR op_eq (pe_can c_last_at_most (hr.mono (by decide)) (by rfl) (pa_cons (pv 2) (pa_cons (pe_op op_mul pe_int (pv 0)) pa_nil))) (pe_op op_add (pe_op op_mul pe_int (pv 0)) pe_int) (nomark _)))))))))))))), ?_⟩
  (purse 16 => fail)
  refine u_first_difference (p := [.sc 1 2 0]) (q := [.sc 1 2 1]) (by (purse 2 => fail)) (by (purse 2 => fail)) (by decide +kernel) (by decide +kernel) fun o1 H5 h5 d1 => ?_
  have e1 := d1.at (m := 8) (by decide +kernel)
  rw [show difL (Pipe.val [.sc 1 2 0]) (Pipe.val [.sc 1 2 1]) (ordL 8) = Option.some (-1) from by decide +kernel] at e1
  subst e1
  rw [show optV (Option.some (-1)) = V.int (-1) from rfl]
  (purse 16 => fail)
  refine u_first_difference (p := [.ev 2]) (q := [.sc 1 2 1]) (by (purse 2 => fail)) (by (purse 2 => fail)) (by decide +kernel) (by decide +kernel) fun o2 H6 h6 d2 => ?_
  have e2 := d2.at (m := 8) (by decide +kernel)
  rw [show difL (Pipe.val [.ev 2]) (Pipe.val [.sc 1 2 1]) (ordL 8) = Option.some 1 from by decide +kernel] at e2
  subst e2
  rw [show optV (Option.some 1) = V.int 1 from rfl]
  (purse 16 => fail)
  refine u_first_difference (p := [.ev 2]) (q := [.sc 1 2 0]) (by (purse 2 => fail)) (by (purse 2 => fail)) (by decide +kernel) (by decide +kernel) fun o3 H7 h7 d3 => ?_
  have e3 := d3.at (m := 8) (by decide +kernel)
  rw [show difL (Pipe.val [.ev 2]) (Pipe.val [.sc 1 2 0]) (ordL 8) = Option.some (-1) from by decide +kernel] at e3
  subst e3
  rw [show optV (Option.some (-1)) = V.int (-1) from rfl]
  (purse 16 => fail)
  refine u_spread (p := [.ev 2]) (by (purse 2 => fail)) (by decide +kernel) fun sv sP sR slo shi H8 h8 sst spl smn smx => ?_
  obtain ⟨rfl, rfl⟩ := spl.unique Le
  have el := smn.uniq (m' := -2) ⟨by decide +kernel, by decide +kernel⟩
  have eh := smx.uniq (m' := 2) ⟨by decide +kernel, by decide +kernel⟩
  subst el eh
  rw [show frTop (2 - -2) 4 = 1 from by decide +kernel, show frBot (2 - -2) 4 = 1 from by decide +kernel] at sst
  (purse 16 => fail)
  refine r_neSelf (d := .tuple [.int 1, .int 1]) (dpIntsT (ns := [1, 1]) (by (show SqT K _ sv [.int 1, .int 1]); (purse 2 => fail))) (by (purse 13 => fail)) (shaped_intsT [1, 1]) ⟨false, rfl, ?_⟩
  (purse 16 => fail)
  refine u_first_above (p := [.sc 1 2 1]) (q := [.ev 2]) (by (purse 2 => fail)) (by (purse 2 => fail)) (by decide +kernel) (by decide +kernel) (by constructor <;> decide +kernel) fun o4 H9 h9 d4 => ?_
  have e4 : o4 = Option.some 1 := by
    cases o4 with
    | none => exfalso; have := d4 1 (by decide); revert this; decide +kernel
    | some z =>
      obtain ⟨z0, z1, z2⟩ := d4
      have a1 : 0 < gapF [.sc 1 2 1] [.ev 2] 1 := by decide +kernel
      have a0 : ¬ 0 < gapF [.sc 1 2 1] [.ev 2] 0 := by decide +kernel
      rcases Int.lt_trichotomy z 1 with h | h | h
      · rw [show z = 0 by omega] at z1; exact absurd z1 a0
      · rw [h]
      · have := z2 1 (by decide) h; omega
  subst e4
  rw [show optV (Option.some 1) = V.int 1 from rfl]
  (purse 16 => fail)
  refine u_first_above (p := [.ev 2]) (q := [.sc 1 2 1]) (by (purse 2 => fail)) (by (purse 2 => fail)) (by decide +kernel) (by decide +kernel) (by constructor <;> decide +kernel) fun o5 H10 h10 d5 => ?_
  have e5 : o5 = Option.none := by
    cases o5 with
    | none => rfl
    | some z => exfalso; have := d5.2.1; have := eu z; unfold gapF at *; omega
  subst e5
  rw [show optV Option.none = V.non from rfl]
  (purse 16 => fail)
  refine u_first_above (p := [.sc 1 2 0]) (q := [.sc 1 2 1]) (by (purse 2 => fail)) (by (purse 2 => fail)) (by decide +kernel) (by decide +kernel) (by constructor <;> decide +kernel) fun o6 H11 h11 d6 => ?_
  have e6 : o6 = Option.none := by
    cases o6 with
    | none => rfl
    | some z => exfalso; have := d6.2.1; have := du z; unfold gapF at *; omega
  subst e6
  rw [show optV Option.none = V.non from rfl]
  (purse 16 => fail)
  refine u_count_equal (p := [.ev 2]) (q := [.sc 1 2 1]) (by (purse 2 => fail)) (by (purse 2 => fail)) (by decide +kernel) (by decide +kernel) (by constructor <;> decide +kernel) (by decide) fun H12 h12 => ?_
  rw [show cntE [.ev 2] [.sc 1 2 1] 0 399 = 300 from by decide +kernel]
  (purse 16 => fail)
  refine u_count_equal (p := [.sc 1 2 0]) (q := [.sc 1 2 1]) (by (purse 2 => fail)) (by (purse 2 => fail)) (by decide +kernel) (by decide +kernel) (by constructor <;> decide +kernel) (by decide) fun H13 h13 => ?_
  rw [show cntE [.sc 1 2 0] [.sc 1 2 1] 0 399 = 200 from by decide +kernel]
  (purse 16 => fail)
  refine u_as_single (p := [.ev 2]) (by (purse 2 => fail)) (by decide +kernel) fun av aP aR alo ahi H14 h14 adp apl amn amx => ?_
  obtain ⟨rfl, rfl⟩ := apl.unique Le
  have el := amn.uniq (m' := -2) ⟨by decide +kernel, by decide +kernel⟩
  have eh := amx.uniq (m' := 2) ⟨by decide +kernel, by decide +kernel⟩
  subst el eh
  rw [show asD 4 2 (-2) 2 = .none from rfl] at adp
  cases dp_none adp
  (purse 16 => fail)
  refine u_as_single (p := [.sc 1 2 0] ++ [.sc 1 2 0]) (by (purse 2 => fail)) (by decide +kernel) fun av2 aP aR alo ahi H15 h15 adp2 apl amn amx => ?_
  obtain ⟨rfl, rfl⟩ := apl.unique Ld
  have el := amn.uniq (m' := -3) ⟨by decide +kernel, by decide +kernel⟩
  have eh := amx.uniq (m' := 0) ⟨by decide +kernel, by decide +kernel⟩
  subst el eh
  rw [show asD 4 1 (-3) 0 = .tuple [.str "scale", .int 1, .int 4, .int 0] from rfl] at adp2
  (purse 16 => fail)
  refine r_neSelf (d := .tuple [.str "scale", .int 1, .int 4, .int 0]) (by (purse 2 => fail)) (by (purse 13 => fail)) (by decide +kernel) ⟨false, rfl, ?_⟩
  (purse 16 => fail)
  exact qbl (decide_eq_true (congrArg V.int f2)) (k _ (by (purse 1 => fail)))
end
end
section
local macro_rules | `(tactic| purse 99 => fail) => `(tactic| (first | ((with_reducible refine' iteT ?_)) | ((with_reducible refine' iteF ?_)) | ((with_reducible refine' iteNT ?_)) | ((with_reducible refine' iteNF ?_)) | ((with_reducible refine' iteD ?rdA ?_); (case rdA => first | assumption | exact scE1 | exact scE2 | exact scE3 | exact scE4 | exact nonE | exact refE | exact intE | exact blE)) | ((with_reducible refine' iteDF ?rdA ?_); (case rdA => first | assumption | exact scE1 | exact scE2 | exact scE3 | exact scE4 | exact nonE | exact refE | exact intE | exact blE)) | ((with_reducible refine' iteND ?rdA ?_); (case rdA => first | assumption | exact scE1 | exact scE2 | exact scE3 | exact scE4 | exact nonE | exact refE | exact intE | exact blE)) | ((with_reducible refine' iteNDF ?rdA ?_); (case rdA => first | assumption | exact scE1 | exact scE2 | exact scE3 | exact scE4 | exact nonE | exact refE | exact intE | exact blE)) | ((with_reducible refine' dec_vint ?_)) | ((with_reducible refine' dec_vintn ?_)) | ((with_reducible refine' ifb ?_ ?_) <;> intro hc <;> (try (exfalso; first | omega | exact hc (congrArg V.int (by omega)) | exact hc (by decide +kernel) | exact absurd hc (by decide +kernel)))) | ((with_reducible refine' ifnb ?_ ?_) <;> intro hc <;> (try (exfalso; first | omega | exact hc (congrArg V.int (by omega)) | exact hc (by decide +kernel) | exact absurd hc (by decide +kernel))))))
section
variable {P : Program} {w : World} {K : PySem.W.Frag} {mg : Str → Option Value} {base : Heap}
theorem ok_law_level_right {f : Addr} {fd : FuncData} (F : Fun K "_law_level_right" "_law_level_right" s_law_level_right f fd) (c_cycle : Can P w K mg base 6 "cycle" ["pipeline", "x"] (sp_cycle K)) (c_mean_shift : Can P w K mg base 6 "mean_shift" ["pipeline"] (sp_mean_shift K)) (c_iterate : Can P w K mg base 6 "iterate" ["pipeline", "x", "count"] (sp_iterate K)) (c_equal : Can P w K mg base 6 "equal" ["first", "second"] (sp_equal K)) (c_period : Can P w K mg base 5 "period" ["pipeline"] (sp_period K)) :
    FnOk P w K mg base CX0 7 f fd [] (sp_law_level_right K) := by
  refine F.ok sc_law_level_right (fun vs H Q E h => sp_law_level_right_len h) (fun cdv A outer s H vs Q E hr h => ?_)
  obtain ⟨rfl, k⟩ := h
  have L1 : Least (Pipe.val [.sc 3 2 1, .sc 2 3 1]) 1 1 := least_of (d := 1) (r := 1) (by decide +kernel)
  have L2 : Least (Pipe.val [.sc 1 1 5]) 1 1 := least_of (d := 1) (r := 1) (by decide +kernel)
  have L3 : Least (Pipe.val [.sc 1 3 2, .sc 3 1 1]) 3 3 := least_of (d := 3) (r := 3) (by decide +kernel)
  refine ⟨_, (pss_cons (ps_set (i := 0) sc_law_level_right.nd rfl (Or.inl rfl) (pe_tup (pa_cons (pe_tup (pa_cons pe_str (pa_cons pe_int (pa_cons pe_int (pa_cons pe_int pa_nil))))) (pa_cons (pe_tup (pa_cons pe_str (pa_cons pe_int (pa_cons pe_int (pa_cons pe_int pa_nil))))) pa_nil)))) (pss_cons (ps_if (PW.pt (pw_or (pt_cmpR (kneD K hr.units) (pe_can c_period (hr.mono (by decide)) (by rfl) (pa_cons (pv 0) pa_nil)) (pe_tup (pa_cons pe_int (pa_cons pe_int pa_nil))) (nomark _)) (pw_or (pt_cmpR op_ne (pe_can c_iterate (hr.mono (by decide)) (by rfl) (pa_cons (pv 0) (pa_cons pe_int (pa_cons (pe_op op_pow pe_int pe_int) pa_nil)))) pe_int (nomark _)) (pw_or1 (pt_cmpR op_notBl (pe_can c_equal (hr.mono (by decide)) (by rfl) (pa_cons (pv 0) (pa_cons (pe_tup pa_nil) pa_nil))) pe_bl (nomark _)))))) (pss_one (ps_ret pe_bl)) pss_nil) (pss_cons (ps_set (i := 1) sc_law_level_right.nd rfl (Or.inl rfl) (pe_tup (pa_cons (pe_tup (pa_cons pe_str (pa_cons pe_int (pa_cons pe_int (pa_cons pe_int pa_nil))))) pa_nil))) (pss_cons (ps_if (PW.pt (pw_or (pt_cmpR op_ne (pe_can c_iterate (hr.mono (by decide)) (by rfl) (pa_cons (pv 1) (pa_cons (pe_un un_neg pe_int) (pa_cons (pe_op op_pow pe_int pe_int) pa_nil)))) (pe_op op_sub (pe_op op_mul pe_int (pe_op op_pow pe_int pe_int)) pe_int) (nomark _)) (pw_or1 (pt_cmpR (kneD K hr.units) (pe_can c_mean_shift (hr.mono (by decide)) (by rfl) (pa_cons (pv 1) pa_nil)) (pe_tup (pa_cons pe_int (pa_cons pe_int pa_nil))) (nomark _))))) (pss_one (ps_ret pe_bl)) pss_nil) (pss_cons (ps_if (pt_cmpR (kneD K hr.units) (pe_can c_cycle (hr.mono (by decide)) (by rfl) (pa_cons (pv 1) (pa_cons pe_int pa_nil))) (pe_tup (pa_cons pe_int (pa_cons pe_int pa_nil))) (nomark _)) (pss_one (ps_ret pe_bl)) pss_nil) (pss_cons (ps_set (i := 2) sc_law_level_right.nd rfl (Or.inl rfl) (pe_tup (pa_cons (pe_tup (pa_cons pe_str (pa_cons pe_int (pa_cons pe_int (pa_cons pe_int pa_nil))))) (pa_cons (pe_tup (pa_cons pe_str (pa_cons pe_int (pa_cons pe_int (pa_cons pe_int pa_nil))))) pa_nil)))) (pss_cons (ps_if (PW.pt (pw_or (pt_cmpR op_ne (pe_can c_iterate (hr.mono (by decide)) (by rfl) (pa_cons (pv 2) (pa_cons pe_int (pa_cons pe_int pa_nil)))) pe_int (nomark _)) (pw_or (pt_cmpR op_ne (pe_can c_iterate (hr.mono (by decide)) (by rfl) (pa_cons (pv 2) (pa_cons pe_int (pa_cons pe_int pa_nil)))) pe_int (nomark _)) (pw_or1 (pt_cmpR (kneD K hr.units) (pe_can c_mean_shift (hr.mono (by decide)) (by rfl) (pa_cons (pv 2) pa_nil)) (pe_tup (pa_cons pe_int (pa_cons pe_int pa_nil))) (nomark _)))))) (pss_one (ps_ret pe_bl)) pss_nil) (pss_one (ps_ret (pe_cmpR (keqD K hr.units) (pe_can c_cycle (hr.mono (by decide)) (by rfl) (pa_cons (pv 2) (pa_cons pe_int pa_nil))) (pe_tup (pa_cons pe_int (pa_cons pe_int pa_nil))) (nomark _))))))))))), ?_⟩
  (purse 16 => fail)
  refine u_period (p := [.sc 3 2 1, .sc 2 3 1]) (by (purse 2 => fail)) (by decide +kernel) fun pt pP pR H10 h10 pst ppl => ?_
  obtain ⟨rfl, rfl⟩ := ppl.unique L1
  (purse 16 => fail)
  refine r_neSelf (d := .tuple [.int 1, .int 1]) (dpIntsT (ns := [1, 1]) (by (show SqT K _ pt [.int 1, .int 1]); (purse 2 => fail))) (by (purse 13 => fail)) (shaped_intsT [1, 1]) ⟨false, rfl, ?_⟩
  (purse 16 => fail)
  refine u_iterate (p := [.sc 3 2 1, .sc 2 3 1]) (by (purse 2 => fail)) (by decide +kernel) L1 (by decide) (by decide) fun H11 h11 => ?_
  rw [it_turn]
  (purse 16 => fail)
  refine u_equal (p := [.sc 3 2 1, .sc 2 3 1]) (q := []) (by (purse 2 => fail)) (by (purse 2 => fail)) (by decide +kernel) (by decide +kernel) fun eb H12 h12 ebh => ?_
  have e1 : eb = true := ebh.mpr fun y => by rw [turn_val]; show y + 0 = y; omega
  subst e1
  (purse 16 => fail)
  refine u_iterate (p := [.sc 1 1 5]) (by (purse 2 => fail)) (by decide +kernel) L2 (by decide) (by decide) fun H13 h13 => ?_
  rw [it_five]
  (purse 16 => fail)
  refine u_mean_shift (p := [.sc 1 1 5]) (by (purse 2 => fail)) (by decide +kernel) L2 fun ma μ m H14 h14 W mst => ?_
  have w1 := W.lt
  have w2 := W.len_le (by decide)
  obtain ⟨rfl, rfl⟩ : μ = 0 ∧ m = 1 := by omega
  rw [show frTop (itN (Pipe.val [.sc 1 1 5]) 1 0 - itN (Pipe.val [.sc 1 1 5]) 0 0) (((1 : Nat) : Int) - ((0 : Nat) : Int)) = 5 from by decide +kernel, show frBot (itN (Pipe.val [.sc 1 1 5]) 1 0 - itN (Pipe.val [.sc 1 1 5]) 0 0) (((1 : Nat) : Int) - ((0 : Nat) : Int)) = 1 from by decide +kernel] at mst
  (purse 16 => fail)
  refine r_neSelf (d := .tuple [.int 5, .int 1]) (dpIntsT (ns := [5, 1]) (by (show SqT K _ ma [.int 5, .int 1]); (purse 2 => fail))) (by (purse 13 => fail)) (shaped_intsT [5, 1]) ⟨false, rfl, ?_⟩
  (purse 16 => fail)
  refine u_cycle (p := [.sc 1 1 5]) (by (purse 2 => fail)) (by decide +kernel) L2 (by decide) fun ca μ m H15 h15 W cst => ?_
  have w1 := W.lt
  have w2 := W.len_le (by decide)
  obtain ⟨rfl, rfl⟩ : μ = 0 ∧ m = 1 := by omega
  have cst3 : SqT K _ ca [.int 0, .int 1] := cst
  clear cst
  (purse 16 => fail)
  refine r_neSelf (d := .tuple [.int 0, .int 1]) (dpIntsT (ns := [0, 1]) (by (show SqT K _ ca [.int 0, .int 1]); (purse 2 => fail))) (by (purse 13 => fail)) (shaped_intsT [0, 1]) ⟨false, rfl, ?_⟩
  (purse 16 => fail)
  refine u_iterate (p := [.sc 1 3 2, .sc 3 1 1]) (by (purse 2 => fail)) (by decide +kernel) L3 (by decide) (by decide) fun H16 h16 => ?_
  rw [show itN (Pipe.val [.sc 1 3 2, .sc 3 1 1]) (Int.toNat 1) 0 = 1 from by decide +kernel]
  (purse 16 => fail)
  refine u_iterate (p := [.sc 1 3 2, .sc 3 1 1]) (by (purse 2 => fail)) (by decide +kernel) L3 (by decide) (by decide) fun H17 h17 => ?_
  rw [show itN (Pipe.val [.sc 1 3 2, .sc 3 1 1]) (Int.toNat 1) 1 = 4 from by decide +kernel]
  (purse 16 => fail)
  refine u_mean_shift (p := [.sc 1 3 2, .sc 3 1 1]) (by (purse 2 => fail)) (by decide +kernel) L3 fun mb μ m H18 h18 W mst2 => ?_
  obtain ⟨rfl, rfl⟩ := climb_walk W
  rw [show frTop (itN (Pipe.val [.sc 1 3 2, .sc 3 1 1]) 2 0 - itN (Pipe.val [.sc 1 3 2, .sc 3 1 1]) 1 0) (((2 : Nat) : Int) - ((1 : Nat) : Int)) = 3 from by decide +kernel, show frBot (itN (Pipe.val [.sc 1 3 2, .sc 3 1 1]) 2 0 - itN (Pipe.val [.sc 1 3 2, .sc 3 1 1]) 1 0) (((2 : Nat) : Int) - ((1 : Nat) : Int)) = 1 from by decide +kernel] at mst2
  (purse 16 => fail)
  refine r_neSelf (d := .tuple [.int 3, .int 1]) (dpIntsT (ns := [3, 1]) (by (show SqT K _ mb [.int 3, .int 1]); (purse 2 => fail))) (by (purse 13 => fail)) (shaped_intsT [3, 1]) ⟨false, rfl, ?_⟩
  (purse 16 => fail)
  refine u_cycle (p := [.sc 1 3 2, .sc 3 1 1]) (by (purse 2 => fail)) (by decide +kernel) L3 (by decide) fun cb μ m H19 h19 W cst2 => ?_
  obtain ⟨rfl, rfl⟩ := climb_walk W
  have cst3 : SqT K _ cb [.int 1, .int 1] := cst2
  clear cst2
  (purse 16 => fail)
  refine r_eqSelf (d := .tuple [.int 1, .int 1]) (dpIntsT (ns := [1, 1]) (by (show SqT K _ cb [.int 1, .int 1]); (purse 2 => fail))) (by (purse 13 => fail)) (shaped_intsT [1, 1]) ?_
  exact k _ (by (purse 1 => fail))
end
end
section
local macro_rules | `(tactic| purse 99 => fail) => `(tactic| (first | ((with_reducible refine' u_law_level_right ?_); intro H2 h2) | ((with_reducible refine' u_law_bags (K := K) ?rdA ?rdB ?_); (case rdA => (purse 2 => fail)); (case rdB => omega); intro q2 bs2 H2 h2 n2 bg2) | ((with_reducible refine' u_law_halving ?rdA ?_); (case rdA => (first | assumption | omega)); intro H2 h2) | ((with_reducible refine' u_law_conversion ?rdA ?_); (case rdA => (first | assumption | omega)); intro H2 h2) | ((with_reducible refine' u_law_far_draw (K := K) ?rdA ?rdB ?_); (case rdA => (purse 2 => fail)); (case rdB => omega); intro r2 H2 h2 r2l r2u) | ((with_reducible refine' iteT ?_)) | ((with_reducible refine' iteF ?_)) | ((with_reducible refine' iteNT ?_)) | ((with_reducible refine' iteNF ?_)) | ((with_reducible refine' iteD ?rdA ?_); (case rdA => first | assumption | exact scE1 | exact scE2 | exact scE3 | exact scE4 | exact nonE | exact refE | exact intE | exact blE)) | ((with_reducible refine' iteDF ?rdA ?_); (case rdA => first | assumption | exact scE1 | exact scE2 | exact scE3 | exact scE4 | exact nonE | exact refE | exact intE | exact blE)) | ((with_reducible refine' iteND ?rdA ?_); (case rdA => first | assumption | exact scE1 | exact scE2 | exact scE3 | exact scE4 | exact nonE | exact refE | exact intE | exact blE)) | ((with_reducible refine' iteNDF ?rdA ?_); (case rdA => first | assumption | exact scE1 | exact scE2 | exact scE3 | exact scE4 | exact nonE | exact refE | exact intE | exact blE)) | ((with_reducible refine' dec_vint ?_)) | ((with_reducible refine' dec_vintn ?_)) | ((with_reducible refine' ifb ?_ ?_) <;> intro hc <;> (try (exfalso; first | omega | exact hc (congrArg V.int (by omega)) | exact hc (by decide +kernel) | exact absurd hc (by decide +kernel)))) | ((with_reducible refine' ifnb ?_ ?_) <;> intro hc <;> (try (exfalso; first | omega | exact hc (congrArg V.int (by omega)) | exact hc (by decide +kernel) | exact absurd hc (by decide +kernel))))))
section
variable {P : Program} {w : World} {K : PySem.W.Frag} {mg : Str → Option Value} {base : Heap}
theorem ok_law {f : Addr} {fd : FuncData} (F : Fun K "law" "law" s_law f fd) (c_insert_positions : Can P w K mg base 5 "insert_positions" ["pipeline", "step", "samples"] (sp_insert_positions K)) (c_telling_argument : Can P w K mg base 6 "telling_argument" ["pipeline", "position", "one", "other"] (sp_telling_argument K)) (c_double_rounding : Can P w K mg base 6 "double_rounding" ["m1", "m2", "mode"] (sp_double_rounding K)) (c_hidden_steps : Can P w K mg base 6 "hidden_steps" ["pipeline", "position", "samples"] (sp_hidden_steps K)) (c__law_level_right : Can P w K mg base 7 "_law_level_right" [] (sp_law_level_right K)) (c__law_bags : Can P w K mg base 3 "_law_bags" ["script", "limit"] (sp_law_bags K)) (c__law_halving : Can P w K mg base 7 "_law_halving" ["x"] (sp_law_halving K)) (c__law_conversion : Can P w K mg base 7 "_law_conversion" ["x"] (sp_law_conversion K)) (c__law_far_draw : Can P w K mg base 2 "_law_far_draw" ["bag", "many"] (sp_law_far_draw K)) :
    FnOk P w K mg base CX0 8 f fd ["script"] (sp_law K) := by
  refine F.ok sc_law (fun vs H Q E h => sp_law_len h) (fun cdv A outer s H vs Q E hr h => ?_)
  obtain ⟨a, ns, rfl, hS, k⟩ := h
  refine ⟨_, (pss_cons (ps_for PassesOwn.never rfl (kpi_list K (pe_can c__law_bags (hr.mono (by decide)) (by rfl) (pa_cons (pv 0) (pa_cons pe_int pa_nil)))) (pg_name (i := 1) sc_law.nd rfl (Or.inl rfl)) (pss_cons (ps_set (i := 2) sc_law.nd rfl (Or.inl rfl) (pe_op op_sub (pe_can c__law_far_draw (hr.mono (by decide)) (by rfl) (pa_cons (pv 1) (pa_cons (pe_op op_pow pe_int pe_int) pa_nil))) (pe_op op_mul pe_int (pe_op op_pow pe_int pe_int)))) (pss_one (ps_if (PW.pt (pw_or (pt_not (pt_val (pe_can c__law_conversion (hr.mono (by decide)) (by rfl) (pa_cons (pv 2) pa_nil)))) (pw_or1 (pt_not (pt_val (pe_can c__law_halving (hr.mono (by decide)) (by rfl) (pa_cons (pv 2) pa_nil))))))) (pss_one (ps_ret pe_bl)) pss_nil)))) (pss_cons (ps_if (pt_not (pt_val (pe_can0 c__law_level_right (hr.mono (by decide)) (by rfl)))) (pss_one (ps_ret pe_bl)) pss_nil) (pss_cons (ps_if (pt_cmpR (kneD K hr.units) (pe_ix (kix_list K) (pe_can c_hidden_steps (hr.mono (by decide)) (by rfl) (pa_cons (pe_tup (pa_cons (pe_tup (pa_cons pe_str (pa_cons pe_int pa_nil))) pa_nil)) (pa_cons pe_int (pa_cons (pe_tup (pa_cons (pe_tup (pa_cons pe_int (pa_cons pe_int pa_nil))) (pa_cons (pe_tup (pa_cons pe_int (pa_cons pe_int pa_nil))) (pa_cons (pe_tup (pa_cons pe_int (pa_cons pe_int pa_nil))) pa_nil)))) pa_nil)))) pe_int (fun _ _ => rfl)) (pe_tup (pa_cons pe_int (pa_cons pe_int (pa_cons pe_int (pa_cons pe_int pa_nil))))) (nomark _)) (pss_one (ps_ret pe_bl)) pss_nil) (pss_cons (ps_if (PW.pt (pw_or (pt_cmpR op_notN (pe_can c_double_rounding (hr.mono (by decide)) (by rfl) (pa_cons pe_int (pa_cons pe_int (pa_cons pe_str pa_nil)))) pe_non (nomark _)) (pw_or1 (pt_cmpR op_ne (pe_can c_double_rounding (hr.mono (by decide)) (by rfl) (pa_cons pe_int (pa_cons pe_int (pa_cons pe_str pa_nil)))) (pe_un un_neg pe_int) (nomark _))))) (pss_one (ps_ret pe_bl)) pss_nil) (pss_cons (ps_if (pt_cmpR op_ne (pe_can c_telling_argument (hr.mono (by decide)) (by rfl) (pa_cons (pe_tup (pa_cons (pe_tup (pa_cons pe_str (pa_cons pe_int (pa_cons pe_int (pa_cons pe_int pa_nil))))) pa_nil)) (pa_cons pe_int (pa_cons (pe_tup (pa_cons pe_str (pa_cons pe_int (pa_cons pe_int (pa_cons pe_int pa_nil))))) (pa_cons (pe_tup (pa_cons pe_str (pa_cons pe_int (pa_cons pe_int (pa_cons pe_int pa_nil))))) pa_nil))))) (pe_un un_neg pe_int) (nomark _)) (pss_one (ps_ret pe_bl)) pss_nil) (pss_one (ps_ret (pe_cmpR (keqD K hr.units) (pe_can c_insert_positions (hr.mono (by decide)) (by rfl) (pa_cons (pe_tup (pa_cons (pe_tup (pa_cons pe_str (pa_cons pe_int (pa_cons pe_int (pa_cons pe_int pa_nil))))) pa_nil)) (pa_cons (pe_tup (pa_cons pe_str (pa_cons pe_int (pa_cons pe_int (pa_cons pe_int pa_nil))))) (pa_cons (pe_tup (pa_cons (pe_tup (pa_cons pe_int (pa_cons pe_int pa_nil))) pa_nil)) pa_nil)))) (pe_lst (pa_cons pe_int pa_nil)) (nomark _))))))))), ?_⟩
  (purse 16 => fail)
  refine i_l (SqL.of bg2.lst) ?_
  refine fl_bags bg2 (fun σ' => ∃ w1 w2, σ' = [some (.ref a), w1, w2]) ⟨_, _, rfl⟩ ?_ ?_
  · rintro b d σ' H3 ⟨w1, w2, rfl⟩ hb
    (purse 16 => fail)
    exact ⟨by (purse 6 => fail), _, _, rfl⟩
  · rintro σ' H3 ⟨w1, w2, rfl⟩
    (purse 16 => fail)
    refine u_hidden_steps (p := [.ev 1]) (n := 0) (zs := [(0, 0), (1, 0), (2, 1)]) (by (purse 2 => fail)) (by (purse 2 => fail)) (by decide +kernel) (by decide) (by decide) (by decide) fun q1 H4 h4 n1 xs1 ql1 qr1 => ?_
    rw [show hidL [.ev 1] 0 [(0, 0), (1, 0), (2, 1)] = (1, 2, 0, 0) :: (hidL [.ev 1] 0 [(0, 0), (1, 0), (2, 1)]).tail from by decide +kernel] at qr1
    cases qr1 with
    | @cons v _ vs _ hv ht =>
      (purse 16 => fail)
      refine r_neSelf (d := rowD (1, 2, 0, 0)) (RowAt.dp (by (purse 2 => fail))) (RowAt.dp ⟨_, rfl, SqT.new⟩) (shaped_row _) ⟨false, rfl, ?_⟩
      (purse 16 => fail)
      refine u_double_rounding (md := .hu) (by decide) (by decide) (by decide) fun o1 H5 h5 d1 => ?_
      have e1 := d1.at (m := 40) (by decide +kernel)
      rw [show difL (Pipe.val [Mode.hu.step 3, Mode.hu.step 5]) (Pipe.val [Mode.hu.step (3 * 5)]) (ordL 40) = Option.none from by decide +kernel] at e1
      subst e1
      rw [show optV Option.none = V.non from rfl]
      (purse 16 => fail)
      refine u_double_rounding (md := .he) (by decide) (by decide) (by decide) fun o2 H6 h6 d2 => ?_
      have e2 := d2.at (m := 40) (by decide +kernel)
      rw [show difL (Pipe.val [Mode.he.step 2, Mode.he.step 3]) (Pipe.val [Mode.he.step (2 * 3)]) (ordL 40) = Option.some (-3) from by decide +kernel] at e2
      subst e2
      rw [show optV (Option.some (-3)) = V.int (-3) from rfl]
      (purse 16 => fail)
      refine u_telling_argument (p := [.sc 1 1 0]) (n := 0) (s := .sc 1 2 0) (t := .sc 1 2 1) (by (purse 2 => fail)) (by (purse 2 => fail)) (by (purse 2 => fail)) (by decide +kernel) (by decide) (by decide) (by decide) (by decide +kernel) (by decide +kernel) fun o3 H7 h7 d3 => ?_
      have e3 := d3.at (m := 8) (by decide +kernel)
      rw [show difL (Pipe.val (repP [.sc 1 1 0] (.sc 1 2 0) 0)) (Pipe.val (repP [.sc 1 1 0] (.sc 1 2 1) 0)) (ordL 8) = Option.some (-1) from by decide +kernel] at e3
      subst e3
      rw [show optV (Option.some (-1)) = V.int (-1) from rfl]
      (purse 16 => fail)
      refine u_insert_positions (p := [.sc 2 1 0]) (s := .sc 1 1 1) (zs := [(0, 1)]) (by (purse 2 => fail)) (by (purse 2 => fail)) (by (purse 2 => fail)) (by decide +kernel) (by decide) (by decide) (by decide) fun iq H8 h8 in0 iql => ?_
      rw [show insL [Step.sc 2 1 0] (Step.sc 1 1 1) [(0, 1)] ([Step.sc 2 1 0].length + 1) = [1] from by decide +kernel] at iql
      (purse 16 => fail)
      refine r_eqInts (ns := [1]) (by (purse 2 => fail)) (by exact SqL.new) ?_
      exact k _
end
end
section
variable {P : Program} {w : World} {K : PySem.W.Frag} {mg : Str → Option Value} {base : Heap}
/-! ### what the top has written -/
structure DefIn (K : PySem.W.Frag) (x : Str) (st : Stmt) : Prop where
  ex : ∃ (f : Addr) (oc : Value) (od an : Option Addr) (sl : Array (Option Value)) (kV dc pm cd ct : Value), PySem.W.nsIn K mainGlobals x = some (some (.ref f)) ∧
    K.lookup f = some ⟨oc, od, .func (PySem.W.fnOf x x (defArgs st) (defBody st) (defScope st) .none kV dc pm an cd ct), sl⟩ ∧ PySem.W.codeIn K cd x = true ∧ PySem.W.keepIn K (.ref f) = true
theorem DefIn.mk' {x : Str} {st : Stmt} {f : Addr} {oc : Value} {od an : Option Addr} {sl : Array (Option Value)} {kV dc pm cd ct : Value} (a : PySem.W.nsIn K mainGlobals x = some (some (.ref f)))
    (l : K.lookup f = some ⟨oc, od, .func (PySem.W.fnOf x x (defArgs st) (defBody st) (defScope st) .none kV dc pm an cd ct), sl⟩) (c : PySem.W.codeIn K cd x = true) (k : PySem.W.keepIn K (.ref f) = true) : DefIn K x st :=
  ⟨f, oc, od, an, sl, kV, dc, pm, cd, ct, a, l, c, k⟩
theorem DefIn.at' {x : Str} {st : Stmt} {h : Heap} (D : DefIn K x st) (X : K.In h) (G : h.Ns mainGlobals mg) : ∃ f fd, Fun K x x st f fd ∧ mg x = some (.ref f) ∧
    ∃ kV dc pm an cd ct, fd = PySem.W.fnOf x x (defArgs st) (defBody st) (defScope st) .none kV dc pm an cd ct := by
  obtain ⟨f, oc, od, an, sl, kV, dc, pm, cd, ct, a, l, c, k⟩ := D.ex
  exact ⟨f, _, fun_mk l c k, PySem.W.mg_of X G a, kV, dc, pm, an, cd, ct, rfl⟩
structure ModesIn (K : PySem.W.Frag) : Prop where
  ex : ∃ (a : Addr) (od : Option Addr) (its : Array Value) (n : Nat) (sl : Array (Option Value)), PySem.W.nsIn K mainGlobals "MODES" = some (some (.ref a)) ∧ K.lookup a = some ⟨.type "tuple", od, .seq its n, sl⟩ ∧ its.size ≤ PySem.sizeLine ∧ Vals modesV its.toList
theorem ModesIn.mk' {a : Addr} {od : Option Addr} {its : Array Value} {n : Nat} {sl : Array (Option Value)} (h : PySem.W.nsIn K mainGlobals "MODES" = some (some (.ref a))) (l : K.lookup a = some ⟨.type "tuple", od, .seq its n, sl⟩) (z : its.size ≤ PySem.sizeLine) (v : Vals modesV its.toList) : ModesIn K := ⟨a, od, its, n, sl, h, l, z, v⟩
theorem kmodes_of {h : Heap} (X : K.In h) (G : h.Ns mainGlobals mg) (q : ModesIn K) : KModes K mg := by
  obtain ⟨a, od, its, n, sl, h1, h2, h3, h4⟩ := q.ex
  exact ⟨a, PySem.W.mg_of X G h1, fun H => .inr ⟨_, its, n, h2, rfl, rfl, h3, h4⟩⟩
theorem kint_of {x : Str} {i : Int} {t : Tok} {h : Heap} (X : K.In h) (G : h.Ns mainGlobals mg) (a : PySem.W.nsIn K mainGlobals x = some (some (.int i t))) : KInt mg x i := ⟨t, PySem.W.mg_of X G a⟩
theorem all_mk {l : PySem.W.OpenLaw} {w : World} {h : Heap} {fa : Addr} (X : K.In h) (G : h.Ns mainGlobals mg) (hfa : mg "law" = some (.ref fa)) (d_is_integer : DefIn K "is_integer" s_is_integer) (d_is_step : DefIn K "is_step" s_is_step) (d_step_period : DefIn K "step_period" s_step_period) (d_is_pipeline : DefIn K "is_pipeline" s_is_pipeline) (d_need_pipeline : DefIn K "need_pipeline" s_need_pipeline) (d_need_integer : DefIn K "need_integer" s_need_integer) (d_need_range : DefIn K "need_range" s_need_range) (d_step_value : DefIn K "step_value" s_step_value) (d_value_at : DefIn K "value_at" s_value_at) (d_apply : DefIn K "apply" s_apply) (d_greatest_divisor : DefIn K "greatest_divisor" s_greatest_divisor) (d_fraction : DefIn K "fraction" s_fraction) (d_some_period : DefIn K "some_period" s_some_period) (d_differences : DefIn K "differences" s_differences) (d_least_period : DefIn K "least_period" s_least_period) (d_period : DefIn K "period" s_period) (d_scaled_drift : DefIn K "scaled_drift" s_scaled_drift) (d_drift : DefIn K "drift" s_drift) (d_step_first : DefIn K "step_first" s_step_first) (d_first_of : DefIn K "first_of" s_first_of) (d_last_of : DefIn K "last_of" s_last_of) (d_first_at_least : DefIn K "first_at_least" s_first_at_least) (d_last_at_most : DefIn K "last_at_most" s_last_at_most) (d_interval_of : DefIn K "interval_of" s_interval_of) (d_preimage : DefIn K "preimage" s_preimage) (d_inverse_pipeline : DefIn K "inverse_pipeline" s_inverse_pipeline) (d_first_inverse : DefIn K "first_inverse" s_first_inverse) (d_undoes : DefIn K "undoes" s_undoes) (d_search_order : DefIn K "search_order" s_search_order) (d_collision : DefIn K "collision" s_collision) (d_differ_first : DefIn K "differ_first" s_differ_first) (d_equal : DefIn K "equal" s_equal) (d_first_difference : DefIn K "first_difference" s_first_difference) (d_common_gaps : DefIn K "common_gaps" s_common_gaps) (d_first_above : DefIn K "first_above" s_first_above) (d_count_residue : DefIn K "count_residue" s_count_residue) (d_count_equal : DefIn K "count_equal" s_count_equal) (d_count_steps : DefIn K "count_steps" s_count_steps) (d_count_values : DefIn K "count_values" s_count_values) (d_count_repeated : DefIn K "count_repeated" s_count_repeated) (d_as_single : DefIn K "as_single" s_as_single) (d_spread : DefIn K "spread" s_spread) (d_is_sample : DefIn K "is_sample" s_is_sample) (d_need_samples : DefIn K "need_samples" s_need_samples) (d_need_position : DefIn K "need_position" s_need_position) (d_replaced : DefIn K "replaced" s_replaced) (d_offset_bounds : DefIn K "offset_bounds" s_offset_bounds) (d_hidden_steps : DefIn K "hidden_steps" s_hidden_steps) (d_need_step : DefIn K "need_step" s_need_step) (d_telling_argument : DefIn K "telling_argument" s_telling_argument) (d_fits : DefIn K "fits" s_fits) (d_insert_positions : DefIn K "insert_positions" s_insert_positions) (d_need_level : DefIn K "need_level" s_need_level) (d_walk : DefIn K "walk" s_walk) (d_iterate : DefIn K "iterate" s_iterate) (d_mean_shift : DefIn K "mean_shift" s_mean_shift) (d_cycle : DefIn K "cycle" s_cycle) (d_need_divisor : DefIn K "need_divisor" s_need_divisor) (d_need_mode : DefIn K "need_mode" s_need_mode) (d_mode_step : DefIn K "mode_step" s_mode_step) (d_double_rounding : DefIn K "double_rounding" s_double_rounding) (d__law_cell_at : DefIn K "_law_cell_at" s_law_cell_at) (d__law_draws : DefIn K "_law_draws" s_law_draws) (d__law_bag : DefIn K "_law_bag" s_law_bag) (d__law_bags : DefIn K "_law_bags" s_law_bags) (d__law_take : DefIn K "_law_take" s_law_take) (d__law_far_draw : DefIn K "_law_far_draw" s_law_far_draw) (d__law_conversion : DefIn K "_law_conversion" s_law_conversion) (d__law_halving : DefIn K "_law_halving" s_law_halving) (d__law_level_right : DefIn K "_law_level_right" s_law_level_right) (d_law : DefIn K "law" s_law) (y_isinstance : PySem.W.nsIn K mainGlobals "isinstance" = some none) (y_bool : PySem.W.nsIn K mainGlobals "bool" = some none) (y_int : PySem.W.nsIn K mainGlobals "int" = some none) (y_len : PySem.W.nsIn K mainGlobals "len" = some none) (y_str : PySem.W.nsIn K mainGlobals "str" = some none) (y_tuple : PySem.W.nsIn K mainGlobals "tuple" = some none) (y_all : PySem.W.nsIn K mainGlobals "all" = some none) (y_abs : PySem.W.nsIn K mainGlobals "abs" = some none) (y_zip : PySem.W.nsIn K mainGlobals "zip" = some none) (y_range : PySem.W.nsIn K mainGlobals "range" = some none) (y_sum : PySem.W.nsIn K mainGlobals "sum" = some none) (y_max : PySem.W.nsIn K mainGlobals "max" = some none) (y_min : PySem.W.nsIn K mainGlobals "min" = some none) (y_enumerate : PySem.W.nsIn K mainGlobals "enumerate" = some none) {t_OFFSET_BOUND : Tok} (q_OFFSET_BOUND : PySem.W.nsIn K mainGlobals "OFFSET_BOUND" = some (some (.int 1000000000 t_OFFSET_BOUND))) {t_MAX_PERIOD : Tok} (q_MAX_PERIOD : PySem.W.nsIn K mainGlobals "MAX_PERIOD" = some (some (.int 120 t_MAX_PERIOD))) {t_MAX_STEPS : Tok} (q_MAX_STEPS : PySem.W.nsIn K mainGlobals "MAX_STEPS" = some (some (.int 6 t_MAX_STEPS))) {t_BOUND : Tok} (q_BOUND : PySem.W.nsIn K mainGlobals "BOUND" = some (some (.int 1000000000000000000 t_BOUND))) {t_MAX_SAMPLES : Tok} (q_MAX_SAMPLES : PySem.W.nsIn K mainGlobals "MAX_SAMPLES" = some (some (.int 20 t_MAX_SAMPLES))) {t_MOST : Tok} (q_MOST : PySem.W.nsIn K mainGlobals "MOST" = some (some (.int 12 t_MOST))) (q_MODES : ModesIn K) :
    ∃ fd : FuncData, (∀ (s : Shared) (v : Value), BindsTo s fd ⟨[v], []⟩ [("script", v)]) ∧ ∀ base : Heap, K.In base → base.Ns mainGlobals mg → FnOk l.prog w K mg base CX0 8 fa fd ["script"] (sp_law K) := by
  have z_isinstance := PySem.W.mg_none_of X G y_isinstance
  have z_bool := PySem.W.mg_none_of X G y_bool
  have z_int := PySem.W.mg_none_of X G y_int
  have z_len := PySem.W.mg_none_of X G y_len
  have z_str := PySem.W.mg_none_of X G y_str
  have z_tuple := PySem.W.mg_none_of X G y_tuple
  have z_all := PySem.W.mg_none_of X G y_all
  have z_abs := PySem.W.mg_none_of X G y_abs
  have z_zip := PySem.W.mg_none_of X G y_zip
  have z_range := PySem.W.mg_none_of X G y_range
  have z_sum := PySem.W.mg_none_of X G y_sum
  have z_max := PySem.W.mg_none_of X G y_max
  have z_min := PySem.W.mg_none_of X G y_min
  have z_enumerate := PySem.W.mg_none_of X G y_enumerate
  have g_OFFSET_BOUND := kint_of X G q_OFFSET_BOUND
  have g_MAX_PERIOD := kint_of X G q_MAX_PERIOD
  have g_MAX_STEPS := kint_of X G q_MAX_STEPS
  have g_BOUND := kint_of X G q_BOUND
  have g_MAX_SAMPLES := kint_of X G q_MAX_SAMPLES
  have g_MOST := kint_of X G q_MOST
  have g_MODES := kmodes_of X G q_MODES
  obtain ⟨f_is_integer, fd_is_integer, F_is_integer, m_is_integer, kV_is_integer, dc_is_integer, pm_is_integer, an_is_integer, cd_is_integer, ct_is_integer, e_is_integer⟩ := d_is_integer.at' X G
  have b_is_integer := F_is_integer.binds (ps := ["value", "low", "high"]) fun _ _ _ _ _ _ us hl => match us, hl with | [_, _, _], _ => rfl
  have c_is_integer : ∀ base : Heap, Can l.prog w K mg base 1 "is_integer" ["value", "low", "high"] (sp_is_integer K) := fun base => .mk' F_is_integer (ok_is_integer F_is_integer z_isinstance z_bool z_int) b_is_integer m_is_integer
  obtain ⟨f_is_step, fd_is_step, F_is_step, m_is_step, kV_is_step, dc_is_step, pm_is_step, an_is_step, cd_is_step, ct_is_step, e_is_step⟩ := d_is_step.at' X G
  have b_is_step := F_is_step.binds (ps := ["value"]) fun _ _ _ _ _ _ us hl => match us, hl with | [_], _ => rfl
  have c_is_step : ∀ base : Heap, Can l.prog w K mg base 2 "is_step" ["value"] (sp_is_step K) := fun base => .mk' F_is_step (ok_is_step F_is_step (c_is_integer base) z_len z_isinstance z_str z_tuple g_OFFSET_BOUND) b_is_step m_is_step
  obtain ⟨f_step_period, fd_step_period, F_step_period, m_step_period, kV_step_period, dc_step_period, pm_step_period, an_step_period, cd_step_period, ct_step_period, e_step_period⟩ := d_step_period.at' X G
  have b_step_period := F_step_period.binds (ps := ["step"]) fun _ _ _ _ _ _ us hl => match us, hl with | [_], _ => rfl
  have c_step_period : ∀ base : Heap, Can l.prog w K mg base 1 "step_period" ["step"] (sp_step_period K) := fun base => .mk' F_step_period (ok_step_period F_step_period) b_step_period m_step_period
  obtain ⟨f_is_pipeline, fd_is_pipeline, F_is_pipeline, m_is_pipeline, kV_is_pipeline, dc_is_pipeline, pm_is_pipeline, an_is_pipeline, cd_is_pipeline, ct_is_pipeline, e_is_pipeline⟩ := d_is_pipeline.at' X G
  have b_is_pipeline := F_is_pipeline.binds (ps := ["value"]) fun _ _ _ _ _ _ us hl => match us, hl with | [_], _ => rfl
  have c_is_pipeline : ∀ base : Heap, Can l.prog w K mg base 3 "is_pipeline" ["value"] (sp_is_pipeline K) := fun base => .mk' F_is_pipeline (ok_is_pipeline F_is_pipeline (c_step_period base) (c_is_step base) z_all z_len z_isinstance z_tuple g_MAX_PERIOD g_MAX_STEPS) b_is_pipeline m_is_pipeline
  obtain ⟨f_need_pipeline, fd_need_pipeline, F_need_pipeline, m_need_pipeline, kV_need_pipeline, dc_need_pipeline, pm_need_pipeline, an_need_pipeline, cd_need_pipeline, ct_need_pipeline, e_need_pipeline⟩ := d_need_pipeline.at' X G
  have b_need_pipeline := F_need_pipeline.binds (ps := ["value"]) fun _ _ _ _ _ _ us hl => match us, hl with | [_], _ => rfl
  have c_need_pipeline : ∀ base : Heap, Can l.prog w K mg base 4 "need_pipeline" ["value"] (sp_need_pipeline K) := fun base => .mk' F_need_pipeline (ok_need_pipeline F_need_pipeline (c_is_pipeline base)) b_need_pipeline m_need_pipeline
  obtain ⟨f_need_integer, fd_need_integer, F_need_integer, m_need_integer, kV_need_integer, dc_need_integer, pm_need_integer, an_need_integer, cd_need_integer, ct_need_integer, e_need_integer⟩ := d_need_integer.at' X G
  have b_need_integer := F_need_integer.binds (ps := ["value"]) fun _ _ _ _ _ _ us hl => match us, hl with | [_], _ => rfl
  have c_need_integer : ∀ base : Heap, Can l.prog w K mg base 2 "need_integer" ["value"] (sp_need_integer K) := fun base => .mk' F_need_integer (ok_need_integer F_need_integer (c_is_integer base) g_BOUND) b_need_integer m_need_integer
  obtain ⟨f_need_range, fd_need_range, F_need_range, m_need_range, kV_need_range, dc_need_range, pm_need_range, an_need_range, cd_need_range, ct_need_range, e_need_range⟩ := d_need_range.at' X G
  have b_need_range := F_need_range.binds (ps := ["low", "high"]) fun _ _ _ _ _ _ us hl => match us, hl with | [_, _], _ => rfl
  have c_need_range : ∀ base : Heap, Can l.prog w K mg base 2 "need_range" ["low", "high"] (sp_need_range K) := fun base => .mk' F_need_range (ok_need_range F_need_range (c_is_integer base) g_BOUND) b_need_range m_need_range
  obtain ⟨f_step_value, fd_step_value, F_step_value, m_step_value, kV_step_value, dc_step_value, pm_step_value, an_step_value, cd_step_value, ct_step_value, e_step_value⟩ := d_step_value.at' X G
  have b_step_value := F_step_value.binds (ps := ["step", "x"]) fun _ _ _ _ _ _ us hl => match us, hl with | [_, _], _ => rfl
  have c_step_value : ∀ base : Heap, Can l.prog w K mg base 1 "step_value" ["step", "x"] (sp_step_value K) := fun base => .mk' F_step_value (ok_step_value F_step_value z_int) b_step_value m_step_value
  obtain ⟨f_value_at, fd_value_at, F_value_at, m_value_at, kV_value_at, dc_value_at, pm_value_at, an_value_at, cd_value_at, ct_value_at, e_value_at⟩ := d_value_at.at' X G
  have b_value_at := F_value_at.binds (ps := ["pipeline", "x"]) fun _ _ _ _ _ _ us hl => match us, hl with | [_, _], _ => rfl
  have c_value_at : ∀ base : Heap, Can l.prog w K mg base 2 "value_at" ["pipeline", "x"] (sp_value_at K) := fun base => .mk' F_value_at (ok_value_at F_value_at (c_step_value base)) b_value_at m_value_at
  obtain ⟨f_apply, fd_apply, F_apply, m_apply, kV_apply, dc_apply, pm_apply, an_apply, cd_apply, ct_apply, e_apply⟩ := d_apply.at' X G
  have b_apply := F_apply.binds (ps := ["pipeline", "x"]) fun _ _ _ _ _ _ us hl => match us, hl with | [_, _], _ => rfl
  have c_apply : ∀ base : Heap, Can l.prog w K mg base 5 "apply" ["pipeline", "x"] (sp_apply K) := fun base => .mk' F_apply (ok_apply F_apply (c_value_at base) (c_need_integer base) (c_need_pipeline base)) b_apply m_apply
  obtain ⟨f_greatest_divisor, fd_greatest_divisor, F_greatest_divisor, m_greatest_divisor, kV_greatest_divisor, dc_greatest_divisor, pm_greatest_divisor, an_greatest_divisor, cd_greatest_divisor, ct_greatest_divisor, e_greatest_divisor⟩ := d_greatest_divisor.at' X G
  have b_greatest_divisor := F_greatest_divisor.binds (ps := ["a", "b"]) fun _ _ _ _ _ _ us hl => match us, hl with | [_, _], _ => rfl
  have c_greatest_divisor : ∀ base : Heap, Can l.prog w K mg base 1 "greatest_divisor" ["a", "b"] (sp_greatest_divisor K) := fun base => .mk' F_greatest_divisor (ok_greatest_divisor F_greatest_divisor) b_greatest_divisor m_greatest_divisor
  obtain ⟨f_fraction, fd_fraction, F_fraction, m_fraction, kV_fraction, dc_fraction, pm_fraction, an_fraction, cd_fraction, ct_fraction, e_fraction⟩ := d_fraction.at' X G
  have b_fraction := F_fraction.binds (ps := ["top", "bottom"]) fun _ _ _ _ _ _ us hl => match us, hl with | [_, _], _ => rfl
  have c_fraction : ∀ base : Heap, Can l.prog w K mg base 2 "fraction" ["top", "bottom"] (sp_fraction K) := fun base => .mk' F_fraction (ok_fraction F_fraction (c_greatest_divisor base) z_abs) b_fraction m_fraction
  obtain ⟨f_some_period, fd_some_period, F_some_period, m_some_period, kV_some_period, dc_some_period, pm_some_period, an_some_period, cd_some_period, ct_some_period, e_some_period⟩ := d_some_period.at' X G
  have b_some_period := F_some_period.binds (ps := ["steps"]) fun _ _ _ _ _ _ us hl => match us, hl with | [_], _ => rfl
  have c_some_period : ∀ base : Heap, Can l.prog w K mg base 2 "some_period" ["steps"] (sp_some_period K) := fun base => .mk' F_some_period (ok_some_period F_some_period (c_greatest_divisor base) (c_step_period base)) b_some_period m_some_period
  obtain ⟨f_differences, fd_differences, F_differences, m_differences, kV_differences, dc_differences, pm_differences, an_differences, cd_differences, ct_differences, e_differences⟩ := d_differences.at' X G
  have b_differences := F_differences.binds (ps := ["steps", "length"]) fun _ _ _ _ _ _ us hl => match us, hl with | [_, _], _ => rfl
  have c_differences : ∀ base : Heap, Can l.prog w K mg base 3 "differences" ["steps", "length"] (sp_differences K) := fun base => .mk' F_differences (ok_differences F_differences (c_value_at base) z_zip z_range) b_differences m_differences
  obtain ⟨f_least_period, fd_least_period, F_least_period, m_least_period, kV_least_period, dc_least_period, pm_least_period, an_least_period, cd_least_period, ct_least_period, e_least_period⟩ := d_least_period.at' X G
  have b_least_period := F_least_period.binds (ps := ["steps"]) fun _ _ _ _ _ _ us hl => match us, hl with | [_], _ => rfl
  have c_least_period : ∀ base : Heap, Can l.prog w K mg base 4 "least_period" ["steps"] (sp_least_period K) := fun base => .mk' F_least_period (ok_least_period F_least_period (c_differences base) (c_some_period base) z_range z_sum) b_least_period m_least_period
  obtain ⟨f_period, fd_period, F_period, m_period, kV_period, dc_period, pm_period, an_period, cd_period, ct_period, e_period⟩ := d_period.at' X G
  have b_period := F_period.binds (ps := ["pipeline"]) fun _ _ _ _ _ _ us hl => match us, hl with | [_], _ => rfl
  have c_period : ∀ base : Heap, Can l.prog w K mg base 5 "period" ["pipeline"] (sp_period K) := fun base => .mk' F_period (ok_period F_period (c_least_period base) (c_need_pipeline base)) b_period m_period
  obtain ⟨f_scaled_drift, fd_scaled_drift, F_scaled_drift, m_scaled_drift, kV_scaled_drift, dc_scaled_drift, pm_scaled_drift, an_scaled_drift, cd_scaled_drift, ct_scaled_drift, e_scaled_drift⟩ := d_scaled_drift.at' X G
  have b_scaled_drift := F_scaled_drift.binds (ps := ["steps"]) fun _ _ _ _ _ _ us hl => match us, hl with | [_], _ => rfl
  have c_scaled_drift : ∀ base : Heap, Can l.prog w K mg base 5 "scaled_drift" ["steps"] (sp_scaled_drift K) := fun base => .mk' F_scaled_drift (ok_scaled_drift F_scaled_drift (c_value_at base) (c_least_period base) z_max z_min z_range) b_scaled_drift m_scaled_drift
  obtain ⟨f_drift, fd_drift, F_drift, m_drift, kV_drift, dc_drift, pm_drift, an_drift, cd_drift, ct_drift, e_drift⟩ := d_drift.at' X G
  have b_drift := F_drift.binds (ps := ["pipeline"]) fun _ _ _ _ _ _ us hl => match us, hl with | [_], _ => rfl
  have c_drift : ∀ base : Heap, Can l.prog w K mg base 6 "drift" ["pipeline"] (sp_drift K) := fun base => .mk' F_drift (ok_drift F_drift (c_fraction base) (c_scaled_drift base) (c_need_pipeline base)) b_drift m_drift
  obtain ⟨f_step_first, fd_step_first, F_step_first, m_step_first, kV_step_first, dc_step_first, pm_step_first, an_step_first, cd_step_first, ct_step_first, e_step_first⟩ := d_step_first.at' X G
  have b_step_first := F_step_first.binds (ps := ["step", "y"]) fun _ _ _ _ _ _ us hl => match us, hl with | [_, _], _ => rfl
  have c_step_first : ∀ base : Heap, Can l.prog w K mg base 1 "step_first" ["step", "y"] (sp_step_first K) := fun base => .mk' F_step_first (ok_step_first F_step_first) b_step_first m_step_first
  obtain ⟨f_first_of, fd_first_of, F_first_of, m_first_of, kV_first_of, dc_first_of, pm_first_of, an_first_of, cd_first_of, ct_first_of, e_first_of⟩ := d_first_of.at' X G
  have b_first_of := F_first_of.binds (ps := ["steps", "y"]) fun _ _ _ _ _ _ us hl => match us, hl with | [_, _], _ => rfl
  have c_first_of : ∀ base : Heap, Can l.prog w K mg base 2 "first_of" ["steps", "y"] (sp_first_of K) := fun base => .mk' F_first_of (ok_first_of F_first_of (c_step_first base)) b_first_of m_first_of
  obtain ⟨f_last_of, fd_last_of, F_last_of, m_last_of, kV_last_of, dc_last_of, pm_last_of, an_last_of, cd_last_of, ct_last_of, e_last_of⟩ := d_last_of.at' X G
  have b_last_of := F_last_of.binds (ps := ["steps", "y"]) fun _ _ _ _ _ _ us hl => match us, hl with | [_, _], _ => rfl
  have c_last_of : ∀ base : Heap, Can l.prog w K mg base 3 "last_of" ["steps", "y"] (sp_last_of K) := fun base => .mk' F_last_of (ok_last_of F_last_of (c_first_of base)) b_last_of m_last_of
  obtain ⟨f_first_at_least, fd_first_at_least, F_first_at_least, m_first_at_least, kV_first_at_least, dc_first_at_least, pm_first_at_least, an_first_at_least, cd_first_at_least, ct_first_at_least, e_first_at_least⟩ := d_first_at_least.at' X G
  have b_first_at_least := F_first_at_least.binds (ps := ["pipeline", "y"]) fun _ _ _ _ _ _ us hl => match us, hl with | [_, _], _ => rfl
  have c_first_at_least : ∀ base : Heap, Can l.prog w K mg base 5 "first_at_least" ["pipeline", "y"] (sp_first_at_least K) := fun base => .mk' F_first_at_least (ok_first_at_least F_first_at_least (c_first_of base) (c_need_integer base) (c_need_pipeline base)) b_first_at_least m_first_at_least
  obtain ⟨f_last_at_most, fd_last_at_most, F_last_at_most, m_last_at_most, kV_last_at_most, dc_last_at_most, pm_last_at_most, an_last_at_most, cd_last_at_most, ct_last_at_most, e_last_at_most⟩ := d_last_at_most.at' X G
  have b_last_at_most := F_last_at_most.binds (ps := ["pipeline", "y"]) fun _ _ _ _ _ _ us hl => match us, hl with | [_, _], _ => rfl
  have c_last_at_most : ∀ base : Heap, Can l.prog w K mg base 5 "last_at_most" ["pipeline", "y"] (sp_last_at_most K) := fun base => .mk' F_last_at_most (ok_last_at_most F_last_at_most (c_last_of base) (c_need_integer base) (c_need_pipeline base)) b_last_at_most m_last_at_most
  obtain ⟨f_interval_of, fd_interval_of, F_interval_of, m_interval_of, kV_interval_of, dc_interval_of, pm_interval_of, an_interval_of, cd_interval_of, ct_interval_of, e_interval_of⟩ := d_interval_of.at' X G
  have b_interval_of := F_interval_of.binds (ps := ["steps", "y"]) fun _ _ _ _ _ _ us hl => match us, hl with | [_, _], _ => rfl
  have c_interval_of : ∀ base : Heap, Can l.prog w K mg base 4 "interval_of" ["steps", "y"] (sp_interval_of K) := fun base => .mk' F_interval_of (ok_interval_of F_interval_of (c_last_of base) (c_first_of base)) b_interval_of m_interval_of
  obtain ⟨f_preimage, fd_preimage, F_preimage, m_preimage, kV_preimage, dc_preimage, pm_preimage, an_preimage, cd_preimage, ct_preimage, e_preimage⟩ := d_preimage.at' X G
  have b_preimage := F_preimage.binds (ps := ["pipeline", "y"]) fun _ _ _ _ _ _ us hl => match us, hl with | [_, _], _ => rfl
  have c_preimage : ∀ base : Heap, Can l.prog w K mg base 5 "preimage" ["pipeline", "y"] (sp_preimage K) := fun base => .mk' F_preimage (ok_preimage F_preimage (c_interval_of base) (c_need_integer base) (c_need_pipeline base)) b_preimage m_preimage
  obtain ⟨f_inverse_pipeline, fd_inverse_pipeline, F_inverse_pipeline, m_inverse_pipeline, kV_inverse_pipeline, dc_inverse_pipeline, pm_inverse_pipeline, an_inverse_pipeline, cd_inverse_pipeline, ct_inverse_pipeline, e_inverse_pipeline⟩ := d_inverse_pipeline.at' X G
  have b_inverse_pipeline := F_inverse_pipeline.binds (ps := ["pipeline", "last"]) fun _ _ _ _ _ _ us hl => match us, hl with | [_, _], _ => rfl
  have c_inverse_pipeline : ∀ base : Heap, Can l.prog w K mg base 4 "inverse_pipeline" ["pipeline", "last"] (sp_inverse_pipeline K) := fun base => .mk' F_inverse_pipeline (ok_inverse_pipeline F_inverse_pipeline (c_is_pipeline base) z_tuple) b_inverse_pipeline m_inverse_pipeline
  obtain ⟨f_first_inverse, fd_first_inverse, F_first_inverse, m_first_inverse, kV_first_inverse, dc_first_inverse, pm_first_inverse, an_first_inverse, cd_first_inverse, ct_first_inverse, e_first_inverse⟩ := d_first_inverse.at' X G
  have b_first_inverse := F_first_inverse.binds (ps := ["pipeline"]) fun _ _ _ _ _ _ us hl => match us, hl with | [_], _ => rfl
  have c_first_inverse : ∀ base : Heap, Can l.prog w K mg base 5 "first_inverse" ["pipeline"] (sp_first_inverse K) := fun base => .mk' F_first_inverse (ok_first_inverse F_first_inverse (c_inverse_pipeline base) (c_need_pipeline base)) b_first_inverse m_first_inverse
  obtain ⟨f_undoes, fd_undoes, F_undoes, m_undoes, kV_undoes, dc_undoes, pm_undoes, an_undoes, cd_undoes, ct_undoes, e_undoes⟩ := d_undoes.at' X G
  have b_undoes := F_undoes.binds (ps := ["first", "second"]) fun _ _ _ _ _ _ us hl => match us, hl with | [_, _], _ => rfl
  have c_undoes : ∀ base : Heap, Can l.prog w K mg base 5 "undoes" ["first", "second"] (sp_undoes K) := fun base => .mk' F_undoes (ok_undoes F_undoes (c_value_at base) (c_some_period base) (c_need_pipeline base) z_all z_range) b_undoes m_undoes
  obtain ⟨f_search_order, fd_search_order, F_search_order, m_search_order, kV_search_order, dc_search_order, pm_search_order, an_search_order, cd_search_order, ct_search_order, e_search_order⟩ := d_search_order.at' X G
  have b_search_order := F_search_order.binds (ps := ["count"]) fun _ _ _ _ _ _ us hl => match us, hl with | [_], _ => rfl
  have c_search_order : ∀ base : Heap, Can l.prog w K mg base 1 "search_order" ["count"] (sp_search_order K) := fun base => .mk' F_search_order (ok_search_order F_search_order z_range) b_search_order m_search_order
  obtain ⟨f_collision, fd_collision, F_collision, m_collision, kV_collision, dc_collision, pm_collision, an_collision, cd_collision, ct_collision, e_collision⟩ := d_collision.at' X G
  have b_collision := F_collision.binds (ps := ["pipeline"]) fun _ _ _ _ _ _ us hl => match us, hl with | [_], _ => rfl
  have c_collision : ∀ base : Heap, Can l.prog w K mg base 5 "collision" ["pipeline"] (sp_collision K) := fun base => .mk' F_collision (ok_collision F_collision (c_search_order base) (c_differences base) (c_least_period base) (c_need_pipeline base)) b_collision m_collision
  obtain ⟨f_differ_first, fd_differ_first, F_differ_first, m_differ_first, kV_differ_first, dc_differ_first, pm_differ_first, an_differ_first, cd_differ_first, ct_differ_first, e_differ_first⟩ := d_differ_first.at' X G
  have b_differ_first := F_differ_first.binds (ps := ["first", "second"]) fun _ _ _ _ _ _ us hl => match us, hl with | [_, _], _ => rfl
  have c_differ_first : ∀ base : Heap, Can l.prog w K mg base 5 "differ_first" ["first", "second"] (sp_differ_first K) := fun base => .mk' F_differ_first (ok_differ_first F_differ_first (c_search_order base) (c_value_at base) (c_least_period base)) b_differ_first m_differ_first
  obtain ⟨f_equal, fd_equal, F_equal, m_equal, kV_equal, dc_equal, pm_equal, an_equal, cd_equal, ct_equal, e_equal⟩ := d_equal.at' X G
  have b_equal := F_equal.binds (ps := ["first", "second"]) fun _ _ _ _ _ _ us hl => match us, hl with | [_, _], _ => rfl
  have c_equal : ∀ base : Heap, Can l.prog w K mg base 6 "equal" ["first", "second"] (sp_equal K) := fun base => .mk' F_equal (ok_equal F_equal (c_differ_first base) (c_need_pipeline base)) b_equal m_equal
  obtain ⟨f_first_difference, fd_first_difference, F_first_difference, m_first_difference, kV_first_difference, dc_first_difference, pm_first_difference, an_first_difference, cd_first_difference, ct_first_difference, e_first_difference⟩ := d_first_difference.at' X G
  have b_first_difference := F_first_difference.binds (ps := ["first", "second"]) fun _ _ _ _ _ _ us hl => match us, hl with | [_, _], _ => rfl
  have c_first_difference : ∀ base : Heap, Can l.prog w K mg base 6 "first_difference" ["first", "second"] (sp_first_difference K) := fun base => .mk' F_first_difference (ok_first_difference F_first_difference (c_differ_first base) (c_need_pipeline base)) b_first_difference m_first_difference
  obtain ⟨f_common_gaps, fd_common_gaps, F_common_gaps, m_common_gaps, kV_common_gaps, dc_common_gaps, pm_common_gaps, an_common_gaps, cd_common_gaps, ct_common_gaps, e_common_gaps⟩ := d_common_gaps.at' X G
  have b_common_gaps := F_common_gaps.binds (ps := ["first", "second"]) fun _ _ _ _ _ _ us hl => match us, hl with | [_, _], _ => rfl
  have c_common_gaps : ∀ base : Heap, Can l.prog w K mg base 5 "common_gaps" ["first", "second"] (sp_common_gaps K) := fun base => .mk' F_common_gaps (ok_common_gaps F_common_gaps (c_value_at base) (c_greatest_divisor base) (c_least_period base) z_range) b_common_gaps m_common_gaps
  obtain ⟨f_first_above, fd_first_above, F_first_above, m_first_above, kV_first_above, dc_first_above, pm_first_above, an_first_above, cd_first_above, ct_first_above, e_first_above⟩ := d_first_above.at' X G
  have b_first_above := F_first_above.binds (ps := ["first", "second"]) fun _ _ _ _ _ _ us hl => match us, hl with | [_, _], _ => rfl
  have c_first_above : ∀ base : Heap, Can l.prog w K mg base 6 "first_above" ["first", "second"] (sp_first_above K) := fun base => .mk' F_first_above (ok_first_above F_first_above (c_common_gaps base) (c_need_pipeline base) z_enumerate) b_first_above m_first_above
  obtain ⟨f_count_residue, fd_count_residue, F_count_residue, m_count_residue, kV_count_residue, dc_count_residue, pm_count_residue, an_count_residue, cd_count_residue, ct_count_residue, e_count_residue⟩ := d_count_residue.at' X G
  have b_count_residue := F_count_residue.binds (ps := ["length", "residue", "low", "high"]) fun _ _ _ _ _ _ us hl => match us, hl with | [_, _, _, _], _ => rfl
  have c_count_residue : ∀ base : Heap, Can l.prog w K mg base 1 "count_residue" ["length", "residue", "low", "high"] (sp_count_residue K) := fun base => .mk' F_count_residue (ok_count_residue F_count_residue) b_count_residue m_count_residue
  obtain ⟨f_count_equal, fd_count_equal, F_count_equal, m_count_equal, kV_count_equal, dc_count_equal, pm_count_equal, an_count_equal, cd_count_equal, ct_count_equal, e_count_equal⟩ := d_count_equal.at' X G
  have b_count_equal := F_count_equal.binds (ps := ["first", "second", "low", "high"]) fun _ _ _ _ _ _ us hl => match us, hl with | [_, _, _, _], _ => rfl
  have c_count_equal : ∀ base : Heap, Can l.prog w K mg base 6 "count_equal" ["first", "second", "low", "high"] (sp_count_equal K) := fun base => .mk' F_count_equal (ok_count_equal F_count_equal (c_count_residue base) (c_common_gaps base) (c_need_range base) (c_need_pipeline base) z_enumerate z_int) b_count_equal m_count_equal
  obtain ⟨f_count_steps, fd_count_steps, F_count_steps, m_count_steps, kV_count_steps, dc_count_steps, pm_count_steps, an_count_steps, cd_count_steps, ct_count_steps, e_count_steps⟩ := d_count_steps.at' X G
  have b_count_steps := F_count_steps.binds (ps := ["pipeline", "low", "high", "repeated"]) fun _ _ _ _ _ _ us hl => match us, hl with | [_, _, _, _], _ => rfl
  have c_count_steps : ∀ base : Heap, Can l.prog w K mg base 5 "count_steps" ["pipeline", "low", "high", "repeated"] (sp_count_steps K) := fun base => .mk' F_count_steps (ok_count_steps F_count_steps (c_count_residue base) (c_value_at base) (c_last_of base) (c_first_of base) (c_least_period base) z_range z_int) b_count_steps m_count_steps
  obtain ⟨f_count_values, fd_count_values, F_count_values, m_count_values, kV_count_values, dc_count_values, pm_count_values, an_count_values, cd_count_values, ct_count_values, e_count_values⟩ := d_count_values.at' X G
  have b_count_values := F_count_values.binds (ps := ["pipeline", "low", "high"]) fun _ _ _ _ _ _ us hl => match us, hl with | [_, _, _], _ => rfl
  have c_count_values : ∀ base : Heap, Can l.prog w K mg base 6 "count_values" ["pipeline", "low", "high"] (sp_count_values K) := fun base => .mk' F_count_values (ok_count_values F_count_values (c_count_steps base) (c_need_range base) (c_need_pipeline base)) b_count_values m_count_values
  obtain ⟨f_count_repeated, fd_count_repeated, F_count_repeated, m_count_repeated, kV_count_repeated, dc_count_repeated, pm_count_repeated, an_count_repeated, cd_count_repeated, ct_count_repeated, e_count_repeated⟩ := d_count_repeated.at' X G
  have b_count_repeated := F_count_repeated.binds (ps := ["pipeline", "low", "high"]) fun _ _ _ _ _ _ us hl => match us, hl with | [_, _, _], _ => rfl
  have c_count_repeated : ∀ base : Heap, Can l.prog w K mg base 6 "count_repeated" ["pipeline", "low", "high"] (sp_count_repeated K) := fun base => .mk' F_count_repeated (ok_count_repeated F_count_repeated (c_count_steps base) (c_need_range base) (c_need_pipeline base)) b_count_repeated m_count_repeated
  obtain ⟨f_as_single, fd_as_single, F_as_single, m_as_single, kV_as_single, dc_as_single, pm_as_single, an_as_single, cd_as_single, ct_as_single, e_as_single⟩ := d_as_single.at' X G
  have b_as_single := F_as_single.binds (ps := ["pipeline"]) fun _ _ _ _ _ _ us hl => match us, hl with | [_], _ => rfl
  have c_as_single : ∀ base : Heap, Can l.prog w K mg base 6 "as_single" ["pipeline"] (sp_as_single K) := fun base => .mk' F_as_single (ok_as_single F_as_single (c_scaled_drift base) (c_need_pipeline base)) b_as_single m_as_single
  obtain ⟨f_spread, fd_spread, F_spread, m_spread, kV_spread, dc_spread, pm_spread, an_spread, cd_spread, ct_spread, e_spread⟩ := d_spread.at' X G
  have b_spread := F_spread.binds (ps := ["pipeline"]) fun _ _ _ _ _ _ us hl => match us, hl with | [_], _ => rfl
  have c_spread : ∀ base : Heap, Can l.prog w K mg base 6 "spread" ["pipeline"] (sp_spread K) := fun base => .mk' F_spread (ok_spread F_spread (c_fraction base) (c_scaled_drift base) (c_need_pipeline base)) b_spread m_spread
  obtain ⟨f_is_sample, fd_is_sample, F_is_sample, m_is_sample, kV_is_sample, dc_is_sample, pm_is_sample, an_is_sample, cd_is_sample, ct_is_sample, e_is_sample⟩ := d_is_sample.at' X G
  have b_is_sample := F_is_sample.binds (ps := ["value"]) fun _ _ _ _ _ _ us hl => match us, hl with | [_], _ => rfl
  have c_is_sample : ∀ base : Heap, Can l.prog w K mg base 2 "is_sample" ["value"] (sp_is_sample K) := fun base => .mk' F_is_sample (ok_is_sample F_is_sample (c_is_integer base) z_all z_len z_isinstance z_tuple g_BOUND) b_is_sample m_is_sample
  obtain ⟨f_need_samples, fd_need_samples, F_need_samples, m_need_samples, kV_need_samples, dc_need_samples, pm_need_samples, an_need_samples, cd_need_samples, ct_need_samples, e_need_samples⟩ := d_need_samples.at' X G
  have b_need_samples := F_need_samples.binds (ps := ["value"]) fun _ _ _ _ _ _ us hl => match us, hl with | [_], _ => rfl
  have c_need_samples : ∀ base : Heap, Can l.prog w K mg base 3 "need_samples" ["value"] (sp_need_samples K) := fun base => .mk' F_need_samples (ok_need_samples F_need_samples (c_is_sample base) z_all z_len z_isinstance z_tuple g_MAX_SAMPLES) b_need_samples m_need_samples
  obtain ⟨f_need_position, fd_need_position, F_need_position, m_need_position, kV_need_position, dc_need_position, pm_need_position, an_need_position, cd_need_position, ct_need_position, e_need_position⟩ := d_need_position.at' X G
  have b_need_position := F_need_position.binds (ps := ["pipeline", "value"]) fun _ _ _ _ _ _ us hl => match us, hl with | [_, _], _ => rfl
  have c_need_position : ∀ base : Heap, Can l.prog w K mg base 2 "need_position" ["pipeline", "value"] (sp_need_position K) := fun base => .mk' F_need_position (ok_need_position F_need_position (c_is_integer base) z_len) b_need_position m_need_position
  obtain ⟨f_replaced, fd_replaced, F_replaced, m_replaced, kV_replaced, dc_replaced, pm_replaced, an_replaced, cd_replaced, ct_replaced, e_replaced⟩ := d_replaced.at' X G
  have b_replaced := F_replaced.binds (ps := ["pipeline", "position", "step"]) fun _ _ _ _ _ _ us hl => match us, hl with | [_, _, _], _ => rfl
  have c_replaced : ∀ base : Heap, Can l.prog w K mg base 1 "replaced" ["pipeline", "position", "step"] (sp_replaced K) := fun base => .mk' F_replaced (ok_replaced F_replaced) b_replaced m_replaced
  obtain ⟨f_offset_bounds, fd_offset_bounds, F_offset_bounds, m_offset_bounds, kV_offset_bounds, dc_offset_bounds, pm_offset_bounds, an_offset_bounds, cd_offset_bounds, ct_offset_bounds, e_offset_bounds⟩ := d_offset_bounds.at' X G
  have b_offset_bounds := F_offset_bounds.binds (ps := ["pipeline", "position", "k", "m", "samples"]) fun _ _ _ _ _ _ us hl => match us, hl with | [_, _, _, _, _], _ => rfl
  have c_offset_bounds : ∀ base : Heap, Can l.prog w K mg base 5 "offset_bounds" ["pipeline", "position", "k", "m", "samples"] (sp_offset_bounds K) := fun base => .mk' F_offset_bounds (ok_offset_bounds F_offset_bounds (c_interval_of base) (c_value_at base) z_min z_max g_OFFSET_BOUND) b_offset_bounds m_offset_bounds
  obtain ⟨f_hidden_steps, fd_hidden_steps, F_hidden_steps, m_hidden_steps, kV_hidden_steps, dc_hidden_steps, pm_hidden_steps, an_hidden_steps, cd_hidden_steps, ct_hidden_steps, e_hidden_steps⟩ := d_hidden_steps.at' X G
  have b_hidden_steps := F_hidden_steps.binds (ps := ["pipeline", "position", "samples"]) fun _ _ _ _ _ _ us hl => match us, hl with | [_, _, _], _ => rfl
  have c_hidden_steps : ∀ base : Heap, Can l.prog w K mg base 6 "hidden_steps" ["pipeline", "position", "samples"] (sp_hidden_steps K) := fun base => .mk' F_hidden_steps (ok_hidden_steps F_hidden_steps (c_is_pipeline base) (c_replaced base) (c_offset_bounds base) (c_need_samples base) (c_need_position base) (c_need_pipeline base) z_range g_MOST) b_hidden_steps m_hidden_steps
  obtain ⟨f_need_step, fd_need_step, F_need_step, m_need_step, kV_need_step, dc_need_step, pm_need_step, an_need_step, cd_need_step, ct_need_step, e_need_step⟩ := d_need_step.at' X G
  have b_need_step := F_need_step.binds (ps := ["pipeline", "position", "value"]) fun _ _ _ _ _ _ us hl => match us, hl with | [_, _, _], _ => rfl
  have c_need_step : ∀ base : Heap, Can l.prog w K mg base 4 "need_step" ["pipeline", "position", "value"] (sp_need_step K) := fun base => .mk' F_need_step (ok_need_step F_need_step (c_is_pipeline base) (c_replaced base) (c_is_step base)) b_need_step m_need_step
  obtain ⟨f_telling_argument, fd_telling_argument, F_telling_argument, m_telling_argument, kV_telling_argument, dc_telling_argument, pm_telling_argument, an_telling_argument, cd_telling_argument, ct_telling_argument, e_telling_argument⟩ := d_telling_argument.at' X G
  have b_telling_argument := F_telling_argument.binds (ps := ["pipeline", "position", "one", "other"]) fun _ _ _ _ _ _ us hl => match us, hl with | [_, _, _, _], _ => rfl
  have c_telling_argument : ∀ base : Heap, Can l.prog w K mg base 6 "telling_argument" ["pipeline", "position", "one", "other"] (sp_telling_argument K) := fun base => .mk' F_telling_argument (ok_telling_argument F_telling_argument (c_differ_first base) (c_replaced base) (c_need_step base) (c_need_position base) (c_need_pipeline base)) b_telling_argument m_telling_argument
  obtain ⟨f_fits, fd_fits, F_fits, m_fits, kV_fits, dc_fits, pm_fits, an_fits, cd_fits, ct_fits, e_fits⟩ := d_fits.at' X G
  have b_fits := F_fits.binds (ps := ["pipeline", "samples"]) fun _ _ _ _ _ _ us hl => match us, hl with | [_, _], _ => rfl
  have c_fits : ∀ base : Heap, Can l.prog w K mg base 3 "fits" ["pipeline", "samples"] (sp_fits K) := fun base => .mk' F_fits (ok_fits F_fits (c_value_at base) z_all) b_fits m_fits
  obtain ⟨f_insert_positions, fd_insert_positions, F_insert_positions, m_insert_positions, kV_insert_positions, dc_insert_positions, pm_insert_positions, an_insert_positions, cd_insert_positions, ct_insert_positions, e_insert_positions⟩ := d_insert_positions.at' X G
  have b_insert_positions := F_insert_positions.binds (ps := ["pipeline", "step", "samples"]) fun _ _ _ _ _ _ us hl => match us, hl with | [_, _, _], _ => rfl
  have c_insert_positions : ∀ base : Heap, Can l.prog w K mg base 5 "insert_positions" ["pipeline", "step", "samples"] (sp_insert_positions K) := fun base => .mk' F_insert_positions (ok_insert_positions F_insert_positions (c_fits base) (c_is_pipeline base) (c_need_samples base) (c_is_step base) (c_need_pipeline base) z_range z_len) b_insert_positions m_insert_positions
  obtain ⟨f_need_level, fd_need_level, F_need_level, m_need_level, kV_need_level, dc_need_level, pm_need_level, an_need_level, cd_need_level, ct_need_level, e_need_level⟩ := d_need_level.at' X G
  have b_need_level := F_need_level.binds (ps := ["pipeline"]) fun _ _ _ _ _ _ us hl => match us, hl with | [_], _ => rfl
  have c_need_level : ∀ base : Heap, Can l.prog w K mg base 5 "need_level" ["pipeline"] (sp_need_level K) := fun base => .mk' F_need_level (ok_need_level F_need_level (c_least_period base)) b_need_level m_need_level
  obtain ⟨f_walk, fd_walk, F_walk, m_walk, kV_walk, dc_walk, pm_walk, an_walk, cd_walk, ct_walk, e_walk⟩ := d_walk.at' X G
  have b_walk := F_walk.binds (ps := ["pipeline", "length", "x"]) fun _ _ _ _ _ _ us hl => match us, hl with | [_, _, _], _ => rfl
  have c_walk : ∀ base : Heap, Can l.prog w K mg base 3 "walk" ["pipeline", "length", "x"] (sp_walk K) := fun base => .mk' F_walk (ok_walk F_walk (c_value_at base) z_len) b_walk m_walk
  obtain ⟨f_iterate, fd_iterate, F_iterate, m_iterate, kV_iterate, dc_iterate, pm_iterate, an_iterate, cd_iterate, ct_iterate, e_iterate⟩ := d_iterate.at' X G
  have b_iterate := F_iterate.binds (ps := ["pipeline", "x", "count"]) fun _ _ _ _ _ _ us hl => match us, hl with | [_, _, _], _ => rfl
  have c_iterate : ∀ base : Heap, Can l.prog w K mg base 6 "iterate" ["pipeline", "x", "count"] (sp_iterate K) := fun base => .mk' F_iterate (ok_iterate F_iterate (c_walk base) (c_need_level base) (c_is_integer base) (c_need_integer base) (c_need_pipeline base) z_len g_BOUND) b_iterate m_iterate
  obtain ⟨f_mean_shift, fd_mean_shift, F_mean_shift, m_mean_shift, kV_mean_shift, dc_mean_shift, pm_mean_shift, an_mean_shift, cd_mean_shift, ct_mean_shift, e_mean_shift⟩ := d_mean_shift.at' X G
  have b_mean_shift := F_mean_shift.binds (ps := ["pipeline"]) fun _ _ _ _ _ _ us hl => match us, hl with | [_], _ => rfl
  have c_mean_shift : ∀ base : Heap, Can l.prog w K mg base 6 "mean_shift" ["pipeline"] (sp_mean_shift K) := fun base => .mk' F_mean_shift (ok_mean_shift F_mean_shift (c_fraction base) (c_walk base) (c_need_level base) (c_need_pipeline base) z_len) b_mean_shift m_mean_shift
  obtain ⟨f_cycle, fd_cycle, F_cycle, m_cycle, kV_cycle, dc_cycle, pm_cycle, an_cycle, cd_cycle, ct_cycle, e_cycle⟩ := d_cycle.at' X G
  have b_cycle := F_cycle.binds (ps := ["pipeline", "x"]) fun _ _ _ _ _ _ us hl => match us, hl with | [_, _], _ => rfl
  have c_cycle : ∀ base : Heap, Can l.prog w K mg base 6 "cycle" ["pipeline", "x"] (sp_cycle K) := fun base => .mk' F_cycle (ok_cycle F_cycle (c_walk base) (c_need_level base) (c_need_integer base) (c_need_pipeline base) z_len) b_cycle m_cycle
  obtain ⟨f_need_divisor, fd_need_divisor, F_need_divisor, m_need_divisor, kV_need_divisor, dc_need_divisor, pm_need_divisor, an_need_divisor, cd_need_divisor, ct_need_divisor, e_need_divisor⟩ := d_need_divisor.at' X G
  have b_need_divisor := F_need_divisor.binds (ps := ["value", "most"]) fun _ _ _ _ _ _ us hl => match us, hl with | [_, _], _ => rfl
  have c_need_divisor : ∀ base : Heap, Can l.prog w K mg base 2 "need_divisor" ["value", "most"] (sp_need_divisor K) := fun base => .mk' F_need_divisor (ok_need_divisor F_need_divisor (c_is_integer base)) b_need_divisor m_need_divisor
  obtain ⟨f_need_mode, fd_need_mode, F_need_mode, m_need_mode, kV_need_mode, dc_need_mode, pm_need_mode, an_need_mode, cd_need_mode, ct_need_mode, e_need_mode⟩ := d_need_mode.at' X G
  have b_need_mode := F_need_mode.binds (ps := ["value"]) fun _ _ _ _ _ _ us hl => match us, hl with | [_], _ => rfl
  have c_need_mode : ∀ base : Heap, Can l.prog w K mg base 1 "need_mode" ["value"] (sp_need_mode K) := fun base => .mk' F_need_mode (ok_need_mode F_need_mode z_isinstance z_str g_MODES) b_need_mode m_need_mode
  obtain ⟨f_mode_step, fd_mode_step, F_mode_step, m_mode_step, kV_mode_step, dc_mode_step, pm_mode_step, an_mode_step, cd_mode_step, ct_mode_step, e_mode_step⟩ := d_mode_step.at' X G
  have b_mode_step := F_mode_step.binds (ps := ["m", "mode"]) fun _ _ _ _ _ _ us hl => match us, hl with | [_, _], _ => rfl
  have c_mode_step : ∀ base : Heap, Can l.prog w K mg base 1 "mode_step" ["m", "mode"] (sp_mode_step K) := fun base => .mk' F_mode_step (ok_mode_step F_mode_step) b_mode_step m_mode_step
  obtain ⟨f_double_rounding, fd_double_rounding, F_double_rounding, m_double_rounding, kV_double_rounding, dc_double_rounding, pm_double_rounding, an_double_rounding, cd_double_rounding, ct_double_rounding, e_double_rounding⟩ := d_double_rounding.at' X G
  have b_double_rounding := F_double_rounding.binds (ps := ["m1", "m2", "mode"]) fun _ _ _ _ _ _ us hl => match us, hl with | [_, _, _], _ => rfl
  have c_double_rounding : ∀ base : Heap, Can l.prog w K mg base 6 "double_rounding" ["m1", "m2", "mode"] (sp_double_rounding K) := fun base => .mk' F_double_rounding (ok_double_rounding F_double_rounding (c_differ_first base) (c_mode_step base) (c_need_mode base) (c_need_divisor base)) b_double_rounding m_double_rounding
  obtain ⟨f__law_cell_at, fd__law_cell_at, F__law_cell_at, m__law_cell_at, kV__law_cell_at, dc__law_cell_at, pm__law_cell_at, an__law_cell_at, cd__law_cell_at, ct__law_cell_at, e__law_cell_at⟩ := d__law_cell_at.at' X G
  have b__law_cell_at := F__law_cell_at.binds (ps := ["script", "k"]) fun _ _ _ _ _ _ us hl => match us, hl with | [_, _], _ => rfl
  have c__law_cell_at : ∀ base : Heap, Can l.prog w K mg base 1 "_law_cell_at" ["script", "k"] (sp_law_cell_at K) := fun base => .mk' F__law_cell_at (ok_law_cell_at F__law_cell_at z_len) b__law_cell_at m__law_cell_at
  obtain ⟨f__law_draws, fd__law_draws, F__law_draws, m__law_draws, kV__law_draws, dc__law_draws, pm__law_draws, an__law_draws, cd__law_draws, ct__law_draws, e__law_draws⟩ := d__law_draws.at' X G
  have b__law_draws := F__law_draws.binds (ps := ["cell", "many", "size"]) fun _ _ _ _ _ _ us hl => match us, hl with | [_, _, _], _ => rfl
  have c__law_draws : ∀ base : Heap, Can l.prog w K mg base 1 "_law_draws" ["cell", "many", "size"] (sp_law_draws K) := fun base => .mk' F__law_draws (ok_law_draws F__law_draws z_range z_int) b__law_draws m__law_draws
  obtain ⟨f__law_bag, fd__law_bag, F__law_bag, m__law_bag, kV__law_bag, dc__law_bag, pm__law_bag, an__law_bag, cd__law_bag, ct__law_bag, e__law_bag⟩ := d__law_bag.at' X G
  have b__law_bag := F__law_bag.binds (ps := ["script", "k"]) fun _ _ _ _ _ _ us hl => match us, hl with | [_, _], _ => rfl
  have c__law_bag : ∀ base : Heap, Can l.prog w K mg base 2 "_law_bag" ["script", "k"] (sp_law_bag K) := fun base => .mk' F__law_bag (ok_law_bag F__law_bag (c__law_draws base) (c__law_cell_at base)) b__law_bag m__law_bag
  obtain ⟨f__law_bags, fd__law_bags, F__law_bags, m__law_bags, kV__law_bags, dc__law_bags, pm__law_bags, an__law_bags, cd__law_bags, ct__law_bags, e__law_bags⟩ := d__law_bags.at' X G
  have b__law_bags := F__law_bags.binds (ps := ["script", "limit"]) fun _ _ _ _ _ _ us hl => match us, hl with | [_, _], _ => rfl
  have c__law_bags : ∀ base : Heap, Can l.prog w K mg base 3 "_law_bags" ["script", "limit"] (sp_law_bags K) := fun base => .mk' F__law_bags (ok_law_bags F__law_bags (c__law_bag base) z_range z_max z_min z_len) b__law_bags m__law_bags
  obtain ⟨f__law_take, fd__law_take, F__law_take, m__law_take, kV__law_take, dc__law_take, pm__law_take, an__law_take, cd__law_take, ct__law_take, e__law_take⟩ := d__law_take.at' X G
  have b__law_take := F__law_take.binds (ps := ["bag", "many"]) fun _ _ _ _ _ _ us hl => match us, hl with | [_, _], _ => rfl
  have c__law_take : ∀ base : Heap, Can l.prog w K mg base 1 "_law_take" ["bag", "many"] (sp_law_take K) := fun base => .mk' F__law_take (ok_law_take F__law_take z_len) b__law_take m__law_take
  obtain ⟨f__law_far_draw, fd__law_far_draw, F__law_far_draw, m__law_far_draw, kV__law_far_draw, dc__law_far_draw, pm__law_far_draw, an__law_far_draw, cd__law_far_draw, ct__law_far_draw, e__law_far_draw⟩ := d__law_far_draw.at' X G
  have b__law_far_draw := F__law_far_draw.binds (ps := ["bag", "many"]) fun _ _ _ _ _ _ us hl => match us, hl with | [_, _], _ => rfl
  have c__law_far_draw : ∀ base : Heap, Can l.prog w K mg base 2 "_law_far_draw" ["bag", "many"] (sp_law_far_draw K) := fun base => .mk' F__law_far_draw (ok_law_far_draw F__law_far_draw (c__law_take base)) b__law_far_draw m__law_far_draw
  obtain ⟨f__law_conversion, fd__law_conversion, F__law_conversion, m__law_conversion, kV__law_conversion, dc__law_conversion, pm__law_conversion, an__law_conversion, cd__law_conversion, ct__law_conversion, e__law_conversion⟩ := d__law_conversion.at' X G
  have b__law_conversion := F__law_conversion.binds (ps := ["x"]) fun _ _ _ _ _ _ us hl => match us, hl with | [_], _ => rfl
  have c__law_conversion : ∀ base : Heap, Can l.prog w K mg base 7 "_law_conversion" ["x"] (sp_law_conversion K) := fun base => .mk' F__law_conversion (ok_law_conversion F__law_conversion (c_count_repeated base) (c_count_values base) (c_drift base) (c_collision base) (c_period base) (c_preimage base) (c_first_inverse base) (c_undoes base) (c_apply base)) b__law_conversion m__law_conversion
  obtain ⟨f__law_halving, fd__law_halving, F__law_halving, m__law_halving, kV__law_halving, dc__law_halving, pm__law_halving, an__law_halving, cd__law_halving, ct__law_halving, e__law_halving⟩ := d__law_halving.at' X G
  have b__law_halving := F__law_halving.binds (ps := ["x"]) fun _ _ _ _ _ _ us hl => match us, hl with | [_], _ => rfl
  have c__law_halving : ∀ base : Heap, Can l.prog w K mg base 7 "_law_halving" ["x"] (sp_law_halving K) := fun base => .mk' F__law_halving (ok_law_halving F__law_halving (c_last_at_most base) (c_first_at_least base) (c_as_single base) (c_count_equal base) (c_first_above base) (c_spread base) (c_apply base) (c_first_difference base)) b__law_halving m__law_halving
  obtain ⟨f__law_level_right, fd__law_level_right, F__law_level_right, m__law_level_right, kV__law_level_right, dc__law_level_right, pm__law_level_right, an__law_level_right, cd__law_level_right, ct__law_level_right, e__law_level_right⟩ := d__law_level_right.at' X G
  have b__law_level_right := F__law_level_right.binds (ps := []) fun _ _ _ _ _ _ us hl => match us, hl with | [], _ => rfl
  have c__law_level_right : ∀ base : Heap, Can l.prog w K mg base 7 "_law_level_right" [] (sp_law_level_right K) := fun base => .mk' F__law_level_right (ok_law_level_right F__law_level_right (c_cycle base) (c_mean_shift base) (c_iterate base) (c_equal base) (c_period base)) b__law_level_right m__law_level_right
  obtain ⟨f_law, fd_law, F_law, m_law, kV_law, dc_law, pm_law, an_law, cd_law, ct_law, e_law⟩ := d_law.at' X G
  have ee := hfa.symm.trans m_law
  cases ee
  subst e_law
  exact ⟨_, fun s v => .of_eq rfl, fun base _ _ => ok_law F_law (c_insert_positions base) (c_telling_argument base) (c_double_rounding base) (c_hidden_steps base) (c__law_level_right base) (c__law_bags base) (c__law_halving base) (c__law_conversion base) (c__law_far_draw base)⟩
end
end My
open PySem PySem.W PyProof.Rows
set_option maxRecDepth 100000 in
set_option maxHeartbeats 0 in
theorem PySem.Challenge.cw_stepscale_k24_whole_worked_examples_holds : PySem.Challenge.rw_stepscale_k24_whole_worked_examples.Holds := by
  w_on; o_law; k_head; (case hw => w_witness2)
  k_fill
  refine L2.walk_of (l := PySem.Challenge.rw_stepscale_k24_whole_worked_examples) (n := 63) (k := 8) (x := "script") (CX := fun _ => L2.CX0) (sp := fun w => My.sp_law _) rfl (by decide) rfl ⟨rfl, by decide, by decide⟩ (fun w h Y => PySem.W.kIn_of Y) ?F (fun _ _ a ns hl _ hS => ⟨a, ns, rfl, hS, fun _ => rfl⟩) (fun _ _ _ _ _ h => h)
  case F =>
    intro w mg fa h KX G hmg
    refine' My.all_mk KX G hmg ?d_is_integer ?d_is_step ?d_step_period ?d_is_pipeline ?d_need_pipeline ?d_need_integer ?d_need_range ?d_step_value ?d_value_at ?d_apply ?d_greatest_divisor ?d_fraction ?d_some_period ?d_differences ?d_least_period ?d_period ?d_scaled_drift ?d_drift ?d_step_first ?d_first_of ?d_last_of ?d_first_at_least ?d_last_at_most ?d_interval_of ?d_preimage ?d_inverse_pipeline ?d_first_inverse ?d_undoes ?d_search_order ?d_collision ?d_differ_first ?d_equal ?d_first_difference ?d_common_gaps ?d_first_above ?d_count_residue ?d_count_equal ?d_count_steps ?d_count_values ?d_count_repeated ?d_as_single ?d_spread ?d_is_sample ?d_need_samples ?d_need_position ?d_replaced ?d_offset_bounds ?d_hidden_steps ?d_need_step ?d_telling_argument ?d_fits ?d_insert_positions ?d_need_level ?d_walk ?d_iterate ?d_mean_shift ?d_cycle ?d_need_divisor ?d_need_mode ?d_mode_step ?d_double_rounding ?d__law_cell_at ?d__law_draws ?d__law_bag ?d__law_bags ?d__law_take ?d__law_far_draw ?d__law_conversion ?d__law_halving ?d__law_level_right ?d_law ?y_isinstance ?y_bool ?y_int ?y_len ?y_str ?y_tuple ?y_all ?y_abs ?y_zip ?y_range ?y_sum ?y_max ?y_min ?y_enumerate ?q_OFFSET_BOUND ?q_MAX_PERIOD ?q_MAX_STEPS ?q_BOUND ?q_MAX_SAMPLES ?q_MOST ?q_MODES
    (case d_is_integer => (refine' My.DefIn.mk' ?a ?l ?c ?k; (case a => k_is); (case l => k_is); (case c => k_is); (case k => k_is)))
    (case d_is_step => (refine' My.DefIn.mk' ?a ?l ?c ?k; (case a => k_is); (case l => k_is); (case c => k_is); (case k => k_is)))
    (case d_step_period => (refine' My.DefIn.mk' ?a ?l ?c ?k; (case a => k_is); (case l => k_is); (case c => k_is); (case k => k_is)))
    (case d_is_pipeline => (refine' My.DefIn.mk' ?a ?l ?c ?k; (case a => k_is); (case l => k_is); (case c => k_is); (case k => k_is)))
    (case d_need_pipeline => (refine' My.DefIn.mk' ?a ?l ?c ?k; (case a => k_is); (case l => k_is); (case c => k_is); (case k => k_is)))
    (case d_need_integer => (refine' My.DefIn.mk' ?a ?l ?c ?k; (case a => k_is); (case l => k_is); (case c => k_is); (case k => k_is)))
    (case d_need_range => (refine' My.DefIn.mk' ?a ?l ?c ?k; (case a => k_is); (case l => k_is); (case c => k_is); (case k => k_is)))
    (case d_step_value => (refine' My.DefIn.mk' ?a ?l ?c ?k; (case a => k_is); (case l => k_is); (case c => k_is); (case k => k_is)))
    (case d_value_at => (refine' My.DefIn.mk' ?a ?l ?c ?k; (case a => k_is); (case l => k_is); (case c => k_is); (case k => k_is)))
    (case d_apply => (refine' My.DefIn.mk' ?a ?l ?c ?k; (case a => k_is); (case l => k_is); (case c => k_is); (case k => k_is)))
    (case d_greatest_divisor => (refine' My.DefIn.mk' ?a ?l ?c ?k; (case a => k_is); (case l => k_is); (case c => k_is); (case k => k_is)))
    (case d_fraction => (refine' My.DefIn.mk' ?a ?l ?c ?k; (case a => k_is); (case l => k_is); (case c => k_is); (case k => k_is)))
    (case d_some_period => (refine' My.DefIn.mk' ?a ?l ?c ?k; (case a => k_is); (case l => k_is); (case c => k_is); (case k => k_is)))
    (case d_differences => (refine' My.DefIn.mk' ?a ?l ?c ?k; (case a => k_is); (case l => k_is); (case c => k_is); (case k => k_is)))
    (case d_least_period => (refine' My.DefIn.mk' ?a ?l ?c ?k; (case a => k_is); (case l => k_is); (case c => k_is); (case k => k_is)))
    (case d_period => (refine' My.DefIn.mk' ?a ?l ?c ?k; (case a => k_is); (case l => k_is); (case c => k_is); (case k => k_is)))
    (case d_scaled_drift => (refine' My.DefIn.mk' ?a ?l ?c ?k; (case a => k_is); (case l => k_is); (case c => k_is); (case k => k_is)))
    (case d_drift => (refine' My.DefIn.mk' ?a ?l ?c ?k; (case a => k_is); (case l => k_is); (case c => k_is); (case k => k_is)))
    (case d_step_first => (refine' My.DefIn.mk' ?a ?l ?c ?k; (case a => k_is); (case l => k_is); (case c => k_is); (case k => k_is)))
    (case d_first_of => (refine' My.DefIn.mk' ?a ?l ?c ?k; (case a => k_is); (case l => k_is); (case c => k_is); (case k => k_is)))
    (case d_last_of => (refine' My.DefIn.mk' ?a ?l ?c ?k; (case a => k_is); (case l => k_is); (case c => k_is); (case k => k_is)))
    (case d_first_at_least => (refine' My.DefIn.mk' ?a ?l ?c ?k; (case a => k_is); (case l => k_is); (case c => k_is); (case k => k_is)))
    (case d_last_at_most => (refine' My.DefIn.mk' ?a ?l ?c ?k; (case a => k_is); (case l => k_is); (case c => k_is); (case k => k_is)))
    (case d_interval_of => (refine' My.DefIn.mk' ?a ?l ?c ?k; (case a => k_is); (case l => k_is); (case c => k_is); (case k => k_is)))
    (case d_preimage => (refine' My.DefIn.mk' ?a ?l ?c ?k; (case a => k_is); (case l => k_is); (case c => k_is); (case k => k_is)))
    (case d_inverse_pipeline => (refine' My.DefIn.mk' ?a ?l ?c ?k; (case a => k_is); (case l => k_is); (case c => k_is); (case k => k_is)))
    (case d_first_inverse => (refine' My.DefIn.mk' ?a ?l ?c ?k; (case a => k_is); (case l => k_is); (case c => k_is); (case k => k_is)))
    (case d_undoes => (refine' My.DefIn.mk' ?a ?l ?c ?k; (case a => k_is); (case l => k_is); (case c => k_is); (case k => k_is)))
    (case d_search_order => (refine' My.DefIn.mk' ?a ?l ?c ?k; (case a => k_is); (case l => k_is); (case c => k_is); (case k => k_is)))
    (case d_collision => (refine' My.DefIn.mk' ?a ?l ?c ?k; (case a => k_is); (case l => k_is); (case c => k_is); (case k => k_is)))
    (case d_differ_first => (refine' My.DefIn.mk' ?a ?l ?c ?k; (case a => k_is); (case l => k_is); (case c => k_is); (case k => k_is)))
    (case d_equal => (refine' My.DefIn.mk' ?a ?l ?c ?k; (case a => k_is); (case l => k_is); (case c => k_is); (case k => k_is)))
    (case d_first_difference => (refine' My.DefIn.mk' ?a ?l ?c ?k; (case a => k_is); (case l => k_is); (case c => k_is); (case k => k_is)))
    (case d_common_gaps => (refine' My.DefIn.mk' ?a ?l ?c ?k; (case a => k_is); (case l => k_is); (case c => k_is); (case k => k_is)))
    (case d_first_above => (refine' My.DefIn.mk' ?a ?l ?c ?k; (case a => k_is); (case l => k_is); (case c => k_is); (case k => k_is)))
    (case d_count_residue => (refine' My.DefIn.mk' ?a ?l ?c ?k; (case a => k_is); (case l => k_is); (case c => k_is); (case k => k_is)))
    (case d_count_equal => (refine' My.DefIn.mk' ?a ?l ?c ?k; (case a => k_is); (case l => k_is); (case c => k_is); (case k => k_is)))
    (case d_count_steps => (refine' My.DefIn.mk' ?a ?l ?c ?k; (case a => k_is); (case l => k_is); (case c => k_is); (case k => k_is)))
    (case d_count_values => (refine' My.DefIn.mk' ?a ?l ?c ?k; (case a => k_is); (case l => k_is); (case c => k_is); (case k => k_is)))
    (case d_count_repeated => (refine' My.DefIn.mk' ?a ?l ?c ?k; (case a => k_is); (case l => k_is); (case c => k_is); (case k => k_is)))
    (case d_as_single => (refine' My.DefIn.mk' ?a ?l ?c ?k; (case a => k_is); (case l => k_is); (case c => k_is); (case k => k_is)))
    (case d_spread => (refine' My.DefIn.mk' ?a ?l ?c ?k; (case a => k_is); (case l => k_is); (case c => k_is); (case k => k_is)))
    (case d_is_sample => (refine' My.DefIn.mk' ?a ?l ?c ?k; (case a => k_is); (case l => k_is); (case c => k_is); (case k => k_is)))
    (case d_need_samples => (refine' My.DefIn.mk' ?a ?l ?c ?k; (case a => k_is); (case l => k_is); (case c => k_is); (case k => k_is)))
    (case d_need_position => (refine' My.DefIn.mk' ?a ?l ?c ?k; (case a => k_is); (case l => k_is); (case c => k_is); (case k => k_is)))
    (case d_replaced => (refine' My.DefIn.mk' ?a ?l ?c ?k; (case a => k_is); (case l => k_is); (case c => k_is); (case k => k_is)))
    (case d_offset_bounds => (refine' My.DefIn.mk' ?a ?l ?c ?k; (case a => k_is); (case l => k_is); (case c => k_is); (case k => k_is)))
    (case d_hidden_steps => (refine' My.DefIn.mk' ?a ?l ?c ?k; (case a => k_is); (case l => k_is); (case c => k_is); (case k => k_is)))
    (case d_need_step => (refine' My.DefIn.mk' ?a ?l ?c ?k; (case a => k_is); (case l => k_is); (case c => k_is); (case k => k_is)))
    (case d_telling_argument => (refine' My.DefIn.mk' ?a ?l ?c ?k; (case a => k_is); (case l => k_is); (case c => k_is); (case k => k_is)))
    (case d_fits => (refine' My.DefIn.mk' ?a ?l ?c ?k; (case a => k_is); (case l => k_is); (case c => k_is); (case k => k_is)))
    (case d_insert_positions => (refine' My.DefIn.mk' ?a ?l ?c ?k; (case a => k_is); (case l => k_is); (case c => k_is); (case k => k_is)))
    (case d_need_level => (refine' My.DefIn.mk' ?a ?l ?c ?k; (case a => k_is); (case l => k_is); (case c => k_is); (case k => k_is)))
    (case d_walk => (refine' My.DefIn.mk' ?a ?l ?c ?k; (case a => k_is); (case l => k_is); (case c => k_is); (case k => k_is)))
    (case d_iterate => (refine' My.DefIn.mk' ?a ?l ?c ?k; (case a => k_is); (case l => k_is); (case c => k_is); (case k => k_is)))
    (case d_mean_shift => (refine' My.DefIn.mk' ?a ?l ?c ?k; (case a => k_is); (case l => k_is); (case c => k_is); (case k => k_is)))
    (case d_cycle => (refine' My.DefIn.mk' ?a ?l ?c ?k; (case a => k_is); (case l => k_is); (case c => k_is); (case k => k_is)))
    (case d_need_divisor => (refine' My.DefIn.mk' ?a ?l ?c ?k; (case a => k_is); (case l => k_is); (case c => k_is); (case k => k_is)))
    (case d_need_mode => (refine' My.DefIn.mk' ?a ?l ?c ?k; (case a => k_is); (case l => k_is); (case c => k_is); (case k => k_is)))
    (case d_mode_step => (refine' My.DefIn.mk' ?a ?l ?c ?k; (case a => k_is); (case l => k_is); (case c => k_is); (case k => k_is)))
    (case d_double_rounding => (refine' My.DefIn.mk' ?a ?l ?c ?k; (case a => k_is); (case l => k_is); (case c => k_is); (case k => k_is)))
    (case d__law_cell_at => (refine' My.DefIn.mk' ?a ?l ?c ?k; (case a => k_is); (case l => k_is); (case c => k_is); (case k => k_is)))
    (case d__law_draws => (refine' My.DefIn.mk' ?a ?l ?c ?k; (case a => k_is); (case l => k_is); (case c => k_is); (case k => k_is)))
    (case d__law_bag => (refine' My.DefIn.mk' ?a ?l ?c ?k; (case a => k_is); (case l => k_is); (case c => k_is); (case k => k_is)))
    (case d__law_bags => (refine' My.DefIn.mk' ?a ?l ?c ?k; (case a => k_is); (case l => k_is); (case c => k_is); (case k => k_is)))
    (case d__law_take => (refine' My.DefIn.mk' ?a ?l ?c ?k; (case a => k_is); (case l => k_is); (case c => k_is); (case k => k_is)))
    (case d__law_far_draw => (refine' My.DefIn.mk' ?a ?l ?c ?k; (case a => k_is); (case l => k_is); (case c => k_is); (case k => k_is)))
    (case d__law_conversion => (refine' My.DefIn.mk' ?a ?l ?c ?k; (case a => k_is); (case l => k_is); (case c => k_is); (case k => k_is)))
    (case d__law_halving => (refine' My.DefIn.mk' ?a ?l ?c ?k; (case a => k_is); (case l => k_is); (case c => k_is); (case k => k_is)))
    (case d__law_level_right => (refine' My.DefIn.mk' ?a ?l ?c ?k; (case a => k_is); (case l => k_is); (case c => k_is); (case k => k_is)))
    (case d_law => (refine' My.DefIn.mk' ?a ?l ?c ?k; (case a => k_is); (case l => k_is); (case c => k_is); (case k => k_is)))
    (case y_isinstance => k_is)
    (case y_bool => k_is)
    (case y_int => k_is)
    (case y_len => k_is)
    (case y_str => k_is)
    (case y_tuple => k_is)
    (case y_all => k_is)
    (case y_abs => k_is)
    (case y_zip => k_is)
    (case y_range => k_is)
    (case y_sum => k_is)
    (case y_max => k_is)
    (case y_min => k_is)
    (case y_enumerate => k_is)
    (case q_OFFSET_BOUND => k_is)
    (case q_MAX_PERIOD => k_is)
    (case q_MAX_STEPS => k_is)
    (case q_BOUND => k_is)
    (case q_MAX_SAMPLES => k_is)
    (case q_MOST => k_is)
    (case q_MODES => (refine' My.ModesIn.mk' ?a ?l ?z ?v; (case a => k_is); (case l => k_is); (case z => (simp [PySem.sizeLine_eq])); (case v => (repeat (first | exact PySem.Paired.nil | refine PySem.Paired.cons ⟨_, rfl⟩ ?_)))))
