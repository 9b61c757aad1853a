import PyProof.Rows.All
import Wide.All
import OpenK.AllK
import Wide.FinOn
import HandS.ForMost
import HandS.IsInst
import HandS.Flow
import HandS.Evl
import HandS.Walk
import HandS.Replace
import HandS.Deep
import PySem.Challenge.RW_beatrows_k11_words_told
set_option Elab.async false
set_option linter.all false
set_option maxRecDepth 100000
set_option maxHeartbeats 4000000
/-! ### own small rules -/
namespace L2
open PySem PySem.Spec PyProof.Rows
section
variable {X : Cx}
theorem pe_gcst {x : Str} {v : V} {pos : Pos} (hg : Gl X x) (h : ∃ u, X.mg x = some u ∧ RelV v u) (hd : (x == ("__debug__" : Str)) = false := by decide) : PE X (.Name x pos) (tC v) :=
  let ⟨_, hm, r⟩ := h
  pe_glob hg hm r hd
/-- divmod by any divisor but nought, below 2^30 -/
theorem call_divmodN : CallR X (.builtin "divmod") (fun xs H Q => ∃ i j : Int, xs = [.int i, .int j] ∧ CDivN i j ∧ ∀ p, H p = none → Q (.ref p) (upd H p (.tup [.int (i.fdiv j), .int (i.fmod j)]))) := by
  intro pins s σ H xs us Q I r h
  obtain ⟨i, j, rfl, ⟨h1, h2⟩, q⟩ := h
  obtain ⟨u, w', rfl, ⟨t, rfl⟩, ⟨t', rfl⟩⟩ := vals2 r
  refine divmod_int h1 ?_ (.inl (PyProof.noPylong_small h2))
  have hn := I.hok.fresh (Nat.le_refl s.heap.objs.size)
  refine ⟨.ref s.heap.objs.size, upd H s.heap.objs.size (.tup [.int (i.fdiv j), .int (i.fmod j)]), ?_, rfl, q _ hn⟩
  refine I.laid (fun b o e => Heap.get?_push_of_some _ e) (Nat.le_refl _) ?_
  refine ⟨by show 2 ≤ sizeLine; decide, [.int (i.fdiv j) s.toks, .int (i.fmod j) (s.toks + 1)], ?_, ?_⟩
  · exact .cons ⟨_, rfl⟩ (.cons ⟨_, rfl⟩ .nil)
  · exact ⟨_, Heap.get?_push_size s.heap rfl, rfl, 0, rfl⟩
end
/-- a new tuple, a new list of these, all else kept -/
def RetT (xs : List V) (H : Hp) (Q : VK) : Prop := ∀ p H2, H p = none → Evl.Ex H H2 → H2 p = some (.tup xs) → Q (.ref p) H2
def RetL (xs : List V) (H : Hp) (Q : VK) : Prop := ∀ p H2, H p = none → Evl.Ex H H2 → H2 p = some (.lst xs) → Q (.ref p) H2
def RetV (v : V) (H : Hp) (Q : VK) : Prop := ∀ H2, Evl.Ex H H2 → Q v H2
theorem RetT.up {xs : List V} {H0 H : Hp} {Q : VK} (k : RetT xs H0 Q) (e : Evl.Ex H0 H) : RetT xs H Q := fun p H2 hp e2 h2 => k p H2 (Evl.fresh_back e hp) (e.trans e2) h2
theorem RetL.up {xs : List V} {H0 H : Hp} {Q : VK} (k : RetL xs H0 Q) (e : Evl.Ex H0 H) : RetL xs H Q := fun p H2 hp e2 h2 => k p H2 (Evl.fresh_back e hp) (e.trans e2) h2
theorem RetV.up {v : V} {H0 H : Hp} {Q : VK} (k : RetV v H0 Q) (e : Evl.Ex H0 H) : RetV v H Q := fun H2 e2 => k H2 (e.trans e2)
def NewT (xs : List V) (H : Hp) (Q : VK) : Prop := xs.length ≤ sizeLine ∧ ∀ p, H p = none → Q (.ref p) (upd H p (.tup xs))
def NewL (xs : List V) (H : Hp) (Q : VK) : Prop := xs.length ≤ sizeLine ∧ ∀ p, H p = none → Q (.ref p) (upd H p (.lst xs))
theorem newT {xs : List V} {H : Hp} {Q : VK} (k : RetT xs H Q) (hz : xs.length ≤ 100000 := by exact Nat.le_of_ble_eq_true rfl) : NewT xs H Q := ⟨Evl.sz_of hz, fun p hp => k p _ hp (Evl.Ex.new hp) upd_same⟩
theorem newL {xs : List V} {H : Hp} {Q : VK} (k : RetL xs H Q) (hz : xs.length ≤ 100000 := by exact Nat.le_of_ble_eq_true rfl) : NewL xs H Q := ⟨Evl.sz_of hz, fun p hp => k p _ hp (Evl.Ex.new hp) upd_same⟩
theorem if_tt {c : Bool} {A B : Prop} (hc : c = true) (h : A) : if c = true then A else B := by rw [if_pos hc]; exact h
theorem if_ff {c : Bool} {A B : Prop} (hc : c = false) (h : B) : if c = true then A else B := by rw [hc]; exact iteF h
theorem if_nt {A B : Prop} (h : B) : if (!true) = true then A else B := iteF h
theorem if_nf {A B : Prop} (h : A) : if (!false) = true then A else B := iteT h
theorem if_cs {c : Bool} {A B : Prop} (h1 : c = true → A) (h2 : c = false → B) : if c = true then A else B := by
  cases c with
  | true => exact iteT (h1 rfl)
  | false => exact iteF (h2 rfl)
theorem kb_ii : kitB "int" "int" = some true := by decide +kernel
theorem kb_bi : kitB "bool" "int" = some true := by decide +kernel
theorem kb_ib : kitB "int" "bool" = some false := by decide +kernel
theorem kb_bb : kitB "bool" "bool" = some true := by decide +kernel
theorem ty_int {K : PySem.W.Frag} {H : Hp} (i : Int) : TyX K H (.int i) (.type "int") := .base (.int i)
theorem ty_bl {K : PySem.W.Frag} {H : Hp} (b : Bool) : TyX K H (.bl b) (.type "bool") := .base (.bl b)
theorem ty_str {K : PySem.W.Frag} {H : Hp} (b : Str) : TyX K H (.str b) (.type "str") := .base (.str b)
theorem ty_non {K : PySem.W.Frag} {H : Hp} : TyX K H .non (.type "NoneType") := .base .non
theorem ty_tup {K : PySem.W.Frag} {H : Hp} {a : Addr} {xs : List V} (h : H a = some (.tup xs)) : TyX K H (.ref a) (.type "tuple") := .base (.tup h)
theorem ty_lst {K : PySem.W.Frag} {H : Hp} {a : Addr} {xs : List V} (h : H a = some (.lst xs)) : TyX K H (.ref a) (.type "list") := .base (.lst h)
/-- isinstance of a thing of a built-in type -/
theorem isi {K : PySem.W.Frag} {H : Hp} {Q : VK} {x : V} {a b : String} {r : Bool} (h : TyX K H x (.type a)) (e : kitB a b = some r) (q : Q (.bl r) H) : rIsi K [x, .ty b] H Q :=
  ⟨x, .ty b, .type a, .type b, r, rfl, .ty b, h, kit_ty e, q⟩
end L2

/-! ### readings, one step each (the goal's head tells which) -/
namespace L2
open PySem PySem.Spec PyProof.Rows
section
variable {K : PySem.W.Frag} {σ : St} {H : Hp} {Q : VK} {B : Bool → Hp → Prop} {ta tb tc te : TE} {t u : TT} {tA : TA} {D : Ends} {s1 s2 : TS} {g : TG} {gs : TGs} {v : V} {r : R2}
theorem c_var {i : Nat} (h : σ[i]? = some (some v)) (q : Q v H) : tVar i σ H Q := ⟨v, h, q⟩
theorem c_c (q : Q v H) : tC v σ H Q := q
theorem c_op (h : ta σ H fun x H1 => tb σ H1 fun y H2 => r x y H2 Q) : tOp r ta tb σ H Q := h
theorem c_un {f : V → Hp → VK → Prop} (h : ta σ H fun x H1 => f x H1 Q) : tUn f ta σ H Q := h
theorem c_test (h : te σ H fun x H1 => ∃ k, x = .bl k ∧ B k H1) : tTest te σ H B := h
theorem c_b (h : te σ H fun x H1 => ∃ k, x = .bl k ∧ B k H1) : tB te σ H B := h
theorem c_and (h : t σ H fun c H1 => if c = true then u σ H1 B else B false H1) : tAnd t u σ H B := h
theorem c_or (h : t σ H fun c H1 => if c = true then B true H1 else u σ H1 B) : tOr t u σ H B := h
theorem c_not (h : t σ H fun c H1 => B (!c) H1) : tNot t σ H B := h
theorem c_andV (h : ta σ H fun x H1 => ∃ c, x = .bl c ∧ if c = true then tb σ H1 Q else Q (.bl false) H1) : tAndV ta tb σ H Q := h
theorem c_orV (h : ta σ H fun x H1 => ∃ c, x = .bl c ∧ if c = true then Q (.bl true) H1 else tb σ H1 Q) : tOrV ta tb σ H Q := h
theorem c_notV (h : ta σ H fun x H1 => ∃ c, x = .bl c ∧ Q (.bl (!c)) H1) : tNotV ta σ H Q := h
theorem c_if (h : t σ H fun c H1 => if c = true then ta σ H1 Q else tb σ H1 Q) : tIf t ta tb σ H Q := h
theorem c_orT (h : ta σ H fun x H1 => ∃ k, TruV K x H1 k ∧ if k = true then Q x H1 else tb σ H1 Q) : tOrT K ta tb σ H Q := h
theorem c_andT (h : ta σ H fun x H1 => ∃ k, TruV K x H1 k ∧ if k = true then tb σ H1 Q else Q x H1) : tAndT K ta tb σ H Q := h
theorem c_notT (h : ta σ H fun x H1 => ∃ k, TruV K x H1 k ∧ Q (.bl (!k)) H1) : tNotT K ta σ H Q := h
theorem c_yes (h : B true H) : tYes σ H B := h
theorem c_nil {q : List V → Hp → Prop} (h : q [] H) : tNil σ H q := h
theorem c_cons {q : List V → Hp → Prop} (h : ta σ H fun x H1 => tA σ H1 fun xs H2 => q (x :: xs) H2) : tCons ta tA σ H q := h
theorem c_tup (h : tA σ H fun xs H1 => NewT xs H1 Q) : tTup tA σ H Q := h
theorem c_lst (h : tA σ H fun xs H1 => NewL xs H1 Q) : tLst tA σ H Q := h
theorem c_call {sp : Sp} {E : XK} (h : tA σ H fun vs H1 => sp vs H1 Q E) : tCall sp [] E tA σ H Q := by
  show tA σ H fun vs H1 => sp (vs ++ []) H1 Q E
  simp only [List.append_nil]
  exact h
theorem c_cb {f : List V → Hp → VK → Prop} (h : tA σ H fun vs H1 => f vs H1 Q) : tCB f tA σ H Q := h
theorem c_sl {f : V → Option Int → Option Int → Hp → VK → Prop} {tl th : TO} (h : te σ H fun x H1 => tl σ H1 fun l H2 => th σ H2 fun u H3 => f x l u H3 Q) : tSl f te tl th σ H Q := h
theorem c_noPart {q : Option Int → Hp → Prop} (h : q none H) : tNoPart σ H q := h
theorem c_part {q : Option Int → Hp → Prop} (h : te σ H fun x H1 => ∃ i, x = .int i ∧ q (some i) H1) : tPart te σ H q := h
theorem c_bm {T : String} {f : V → List V → Hp → VK → Prop} (h : te σ H fun x H1 => tyV K T x H1 ∧ tA σ H1 fun xs H2 => f x xs H2 Q) : tBM K T f te tA σ H Q := h
theorem c_bm0 {T : String} {f : V → List V → Hp → VK → Prop} (h : te σ H fun x H1 => tyV K T x H1 ∧ f x [] H1 Q) : tBM0 K T f te σ H Q := h
theorem c_m0 {f : V → List V → Hp → VK → Prop} (h : te σ H fun x H1 => (∃ a, x = .str a) ∧ f x [] H1 Q) : tM0 f te σ H Q := h
theorem c_m1 {f : V → List V → Hp → VK → Prop} (h : ta σ H fun x H1 => (∃ a, x = .str a) ∧ tb σ H1 fun y H2 => f x [y] H2 Q) : tM1 f ta tb σ H Q := h
theorem c_chain {r' : R2} (h : ta σ H fun x H1 => tb σ H1 fun y H2 => r x y H2 fun z H3 => ∃ k, z = .bl k ∧ (if k = true then tc σ H3 fun w' H4 => r' y w' H4 Q else Q (.bl false) H3)) : tChain r r' ta tb tc σ H Q := h
/-! statements -/
theorem c_next (h : D.nx σ H) : tNext D σ H := h
theorem c_seq (h : s1 { D with nx := s2 D } σ H) : tSeq s1 s2 D σ H := h
theorem c_asg (h : te σ H fun x H1 => g x σ H1 D.nx) : tAsg te g D σ H := h
theorem c_ret (h : te σ H D.rt) : tRet te D σ H := h
theorem c_retN (h : D.rt .non H) : tRetN D σ H := h
theorem c_ifS (h : t σ H fun b H1 => if b = true then s1 D σ H1 else s2 D σ H1) : tIfS t s1 s2 D σ H := h
theorem c_drop (h : te σ H fun _ H1 => D.nx σ H1) : tDrop te D σ H := h
theorem c_break (h : D.bk σ H) : tBreak D σ H := h
theorem c_cont (h : D.ct σ H) : tCont D σ H := h
theorem c_nx {nx : St → Hp → Prop} {rt : VK} {bk ct : St → Hp → Prop} (h : nx σ H) : Ends.nx ⟨nx, rt, bk, ct⟩ σ H := h
theorem c_rt {nx : St → Hp → Prop} {rt : VK} {bk ct : St → Hp → Prop} (h : rt v H) : Ends.rt ⟨nx, rt, bk, ct⟩ v H := h
theorem c_bk {nx : St → Hp → Prop} {rt : VK} {bk ct : St → Hp → Prop} (h : bk σ H) : Ends.bk ⟨nx, rt, bk, ct⟩ σ H := h
theorem c_ct {nx : St → Hp → Prop} {rt : VK} {bk ct : St → Hp → Prop} (h : ct σ H) : Ends.ct ⟨nx, rt, bk, ct⟩ σ H := h
theorem c_gName {i : Nat} {q : St → Hp → Prop} (h : q (σ.set i (some v)) H) : gName i v σ H q := h
theorem c_gTup {n : Nat} {a : Addr} {xs : List V} {q : St → Hp → Prop} (hs : SqT K H a xs) (hl : xs.length = n) (h : gs xs σ H q) : gTup K n gs (.ref a) σ H q := ⟨a, xs, rfl, hs, hl, h⟩
theorem c_gCons {vs : List V} {q : St → Hp → Prop} (h : g v σ H fun σ' H' => gs vs σ' H' q) : gCons g gs (v :: vs) σ H q := ⟨v, vs, rfl, h⟩
theorem c_gNil {q : St → Hp → Prop} (h : q σ H) : gNil [] σ H q := ⟨rfl, h⟩
theorem c_gSub {to ti : TE} {f : TSet} {q : St → Hp → Prop} (h : to σ H fun o H1 => ti σ H1 fun i H2 => f o i v H2 fun H3 => q σ H3) : gSub to ti f v σ H q := h
theorem c_cut {M : St → Hp → Prop} (h : s1 { D with nx := M } σ H) (k : ∀ σ' H', M σ' H' → s2 D σ' H') : Evl.tCut s1 s2 D σ H := ⟨M, h, k⟩
/-! operations on values -/
theorem c_I0 {f : Int → Int → V} {i j : Int} (q : Q (f i j) H) : rI0 f (.int i) (.int j) H Q := ⟨i, j, rfl, rfl, q⟩
theorem c_I {C : Int → Int → Prop} {f : Int → Int → V} {i j : Int} (hc : C i j) (q : Q (f i j) H) : rI C f (.int i) (.int j) H Q := ⟨i, j, rfl, rfl, hc, q⟩
theorem c_U {f : Int → V} {i : Int} (q : Q (f i) H) : rU f (.int i) H Q := ⟨i, rfl, q⟩
theorem c_eq {x y : V} (h : scal x y = true) (q : Q (.bl (decide (x = y))) H) : rEq x y H Q := ⟨h, q⟩
theorem c_ne {x y : V} (h : scal x y = true) (q : Q (.bl (!decide (x = y))) H) : rNe x y H Q := ⟨h, q⟩
theorem c_ixL {p : Addr} {xs : List V} {i : Int} (h : SqL K H p xs) (ha : atI xs i = some v) (q : Q v H) : rIxL K (.ref p) (.int i) H Q := ⟨p, xs, i, v, rfl, rfl, h, ha, q⟩
theorem c_ixT {p : Addr} {xs : List V} {i : Int} (h : SqT K H p xs) (ha : atI xs i = some v) (q : Q v H) : rIxT K (.ref p) (.int i) H Q := ⟨p, xs, i, v, rfl, rfl, h, ha, q⟩
theorem c_setL {p : Addr} {xs : List V} {k : Int} {j : Nat} {q : Hp → Prop} (h : H p = some (.lst xs)) (hj : ixN xs.length k = some j) (h2 : q (upd H p (.lst (xs.set j v)))) : rSetL (.ref p) (.int k) v H q := ⟨p, xs, k, j, rfl, rfl, h, hj, h2⟩
theorem c_in {x : V} {p : Addr} {xs : List V} (h : SqL K H p xs ∨ SqT K H p xs) (hx : flatV x = true) (ha : xs.all flatV = true) (q : Q (.bl (inV x xs)) H) : rIn K false x (.ref p) H Q := ⟨p, xs, rfl, h, hx, ha, q⟩
theorem c_notin {x : V} {p : Addr} {xs : List V} (h : SqL K H p xs ∨ SqT K H p xs) (hx : flatV x = true) (ha : xs.all flatV = true) (q : Q (.bl (!inV x xs)) H) : rIn K true x (.ref p) H Q := ⟨p, xs, rfl, h, hx, ha, q⟩
theorem c_cat {l b : Addr} {xs zs : List V} (h : H l = some (.lst xs)) (h' : H b = some (.lst zs)) (k : RetL (xs ++ zs) H Q) (hz : xs.length + zs.length ≤ 100000 := by exact Nat.le_of_ble_eq_true rfl) : rCat (.ref l) (.ref b) H Q :=
  ⟨l, b, xs, zs, rfl, rfl, h, h', Evl.sz_of hz, fun p hp => k p _ hp (Evl.Ex.new hp) upd_same⟩
end
end L2

/-! ### == of tuples and lists of flat things -/
namespace L2
open PySem PySem.Spec PyProof.Rows
def dOf : V → PyData
  | .non => .none
  | .bl b => .bool b
  | .int i => .int i
  | .str x => .str x
  | _ => .none
/-- flat, its signs within the line -/
def okV : V → Bool
  | .non => true
  | .bl _ => true
  | .int _ => true
  | .str x => PyData.strOk x
  | _ => false
theorem okV_flat {v : V} (h : okV v = true) : flatV v = true := by
  cases v <;> first | rfl | exact absurd h Bool.false_ne_true
theorem okL_flat {xs : List V} (h : xs.all okV = true) : xs.all flatV = true := by
  rw [List.all_eq_true] at h ⊢
  exact fun x hx => okV_flat (h x hx)
def eqL : List V → List V → Bool
  | [], [] => true
  | x :: xs, y :: ys => eqV x y && eqL xs ys
  | _, _ => false
theorem dp_flat {K : PySem.W.Frag} {H : Hp} {v : V} (h : flatV v = true) : Dp K H v (dOf v) := by
  cases v with
  | non => exact .non
  | bl b => exact .bl b
  | int i => exact .int i
  | str x => exact .str x
  | _ => exact absurd h Bool.false_ne_true
theorem dpAll_flat {K : PySem.W.Frag} {H : Hp} : ∀ {xs : List V}, xs.all flatV = true → DpAll K H xs (xs.map dOf)
  | [], _ => .nil
  | x :: xs, h => by
    rw [List.all_cons, Bool.and_eq_true] at h
    exact .cons (dp_flat h.1) (dpAll_flat h.2)
theorem eqv_flat {a b : V} (ha : flatV a = true) (hb : flatV b = true) : PyData.eqv (dOf a) (dOf b) = eqV a b := by
  cases a <;> first | exact absurd ha Bool.false_ne_true | (cases b <;> first | exact absurd hb Bool.false_ne_true | simp [dOf, PyData.eqv, eqV])
theorem eqvAll_flat : ∀ {xs ys : List V}, xs.all flatV = true → ys.all flatV = true → PyData.eqvAll (xs.map dOf) (ys.map dOf) = eqL xs ys
  | [], [], _, _ => by simp [PyData.eqvAll, eqL]
  | [], _ :: _, _, _ => by simp [PyData.eqvAll, eqL]
  | _ :: _, [], _, _ => by simp [PyData.eqvAll, eqL]
  | x :: xs, y :: ys, h, h' => by
    rw [List.all_cons, Bool.and_eq_true] at h h'
    rw [List.map_cons, List.map_cons, PyData.eqvAll, eqv_flat h.1 h'.1, eqvAll_flat h.2 h'.2] <;> rfl
theorem flat_lay {v : V} (ho : okV v = true) : (dOf v).canLay0 = true ∧ (dOf v).depth ≤ 1 := by
  cases v <;> first | exact absurd ho Bool.false_ne_true | (simp [okV] at ho; simp [dOf, PyData.canLay0, PyData.depth, ho]) | simp [dOf, PyData.canLay0, PyData.depth]
theorem flat_layAll : ∀ {xs : List V}, xs.all okV = true → PyData.canLayAll0 (xs.map dOf) = true ∧ PyData.depthAll (xs.map dOf) ≤ 1
  | [], _ => by simp [PyData.canLayAll0, PyData.depthAll]
  | x :: xs, ho => by
    rw [List.all_cons, Bool.and_eq_true] at ho
    have h := flat_lay (v := x) ho.1
    have h2 := flat_layAll (xs := xs) ho.2
    rw [List.map_cons, PyData.canLayAll0, PyData.depthAll, h.1, h2.1]
    refine ⟨rfl, ?_⟩
    have := h.2
    have := h2.2
    omega
theorem shaped_tup {xs : List V} (ho : xs.all okV = true) : SeqAt.shaped (.tuple (xs.map dOf)) = true := by
  have h := flat_layAll (xs := xs) ho
  have h2 := h.2
  unfold SeqAt.shaped
  rw [PyData.canLay0, PyData.depth, h.1, Bool.true_and, decide_eq_true_eq]
  omega
theorem shaped_lst {xs : List V} (ho : xs.all okV = true) : SeqAt.shaped (.list (xs.map dOf)) = true := by
  have h := flat_layAll (xs := xs) ho
  have h2 := h.2
  unfold SeqAt.shaped
  rw [PyData.canLay0, PyData.depth, h.1, Bool.true_and, decide_eq_true_eq]
  omega
section
variable {K : PySem.W.Frag} {H : Hp} {Q : VK} {p q : Addr} {xs ys : List V}
theorem c_eqT (h : SqT K H p xs) (h' : SqT K H q ys) (f : xs.all okV = true) (f' : ys.all okV = true) (k : Q (.bl (eqL xs ys)) H) : rEqD K (.ref p) (.ref q) H Q :=
  ⟨_, _, .tup h (dpAll_flat (okL_flat f)), .tup h' (dpAll_flat (okL_flat f')), shaped_tup f, shaped_tup f', by rw [PyData.eqv, eqvAll_flat (okL_flat f) (okL_flat f')]; exact k⟩
theorem c_neT (h : SqT K H p xs) (h' : SqT K H q ys) (f : xs.all okV = true) (f' : ys.all okV = true) (k : Q (.bl (!eqL xs ys)) H) : rNeD K (.ref p) (.ref q) H Q :=
  ⟨_, _, .tup h (dpAll_flat (okL_flat f)), .tup h' (dpAll_flat (okL_flat f')), shaped_tup f, shaped_tup f', by rw [PyData.eqv, eqvAll_flat (okL_flat f) (okL_flat f')]; exact k⟩
theorem c_eqLs (h : SqL K H p xs) (h' : SqL K H q ys) (f : xs.all okV = true) (f' : ys.all okV = true) (k : Q (.bl (eqL xs ys)) H) : rEqD K (.ref p) (.ref q) H Q :=
  ⟨_, _, .lst h (dpAll_flat (okL_flat f)), .lst h' (dpAll_flat (okL_flat f')), shaped_lst f, shaped_lst f', by rw [PyData.eqv, eqvAll_flat (okL_flat f) (okL_flat f')]; exact k⟩
theorem c_neLs (h : SqL K H p xs) (h' : SqL K H q ys) (f : xs.all okV = true) (f' : ys.all okV = true) (k : Q (.bl (!eqL xs ys)) H) : rNeD K (.ref p) (.ref q) H Q :=
  ⟨_, _, .lst h (dpAll_flat (okL_flat f)), .lst h' (dpAll_flat (okL_flat f')), shaped_lst f, shaped_lst f', by rw [PyData.eqv, eqvAll_flat (okL_flat f) (okL_flat f')]; exact k⟩
theorem eqV_refl {v : V} (h : flatV v = true) : eqV v v = true := by
  cases v <;> first | exact absurd h Bool.false_ne_true | simp [eqV]
theorem eqL_refl : ∀ {xs : List V}, xs.all flatV = true → eqL xs xs = true
  | [], _ => rfl
  | x :: xs, h => by
    rw [List.all_cons, Bool.and_eq_true] at h
    rw [eqL, eqV_refl h.1, eqL_refl h.2] <;> rfl
end
/-! ### the law's box -/
def BoxAt (H : Hp) (b : Addr) : Prop := ∃ x y z : Int, 0 ≤ x ∧ H b = some (.lst [.int x, .int y, .int z])
/-- all but b is kept -/
def ExB (b : Addr) (H H' : Hp) : Prop := ∀ a o, a ≠ b → H a = some o → H' a = some o
theorem ExB.refl (b : Addr) (H : Hp) : ExB b H H := fun _ _ _ h => h
theorem ExB.trans {b : Addr} {H H1 H2 : Hp} (e : ExB b H H1) (e2 : ExB b H1 H2) : ExB b H H2 := fun a o n h => e2 a o n (e a o n h)
theorem ExB.ex {b : Addr} {H H1 H2 : Hp} (e : ExB b H H1) (e2 : Evl.Ex H1 H2) : ExB b H H2 := fun a o n h => e2 a o (e a o n h)
theorem ExB.of {b : Addr} {H H1 : Hp} (e : Evl.Ex H H1) : ExB b H H1 := fun a o _ h => e a o h
theorem ExB.upd {b : Addr} {H : Hp} {o : HO} : ExB b H (upd H b o) := fun a u n h => by rw [upd_ne n]; exact h
theorem BoxAt.ex {H H' : Hp} {b : Addr} (h : BoxAt H b) (e : Evl.Ex H H') : BoxAt H' b := let ⟨x, y, z, p, q⟩ := h; ⟨x, y, z, p, e _ _ q⟩
/-- what did not stand before b was made is kept through ExB b -/
theorem ExB.tot {b : Addr} {H0 H H' : Hp} (e : Evl.Ex H0 H) (n : H0 b = none) (e2 : ExB b H H') : Evl.Ex H0 H' := fun a o h => e2 a o (ne_of_none h n) (e a o h)
theorem ExB.lst {K : PySem.W.Frag} {b a : Addr} {H H' : Hp} {xs : List V} (e : ExB b H H') (n : a ≠ b) (h : SqL K H a xs) : SqL K H' a xs := by
  rcases h with (h | ⟨o, h⟩) | h
  · exact .inl (.inl (e _ _ n h))
  · exact .inl (.inr ⟨o, e _ _ n h⟩)
  · exact .inr h
end L2
namespace L2
open PySem PySem.Spec PyProof.Rows
theorem shaped_flat {v : V} (h : okV v = true) : SeqAt.shaped (dOf v) = true := by
  have q := flat_lay h
  unfold SeqAt.shaped
  rw [q.1, Bool.true_and, decide_eq_true_eq]
  have := q.2
  omega
theorem c_eqF {K : PySem.W.Frag} {H : Hp} {Q : VK} {x y : V} (f : okV x = true) (f' : okV y = true) (k : Q (.bl (eqV x y)) H) : rEqD K x y H Q :=
  ⟨_, _, dp_flat (okV_flat f), dp_flat (okV_flat f'), shaped_flat f, shaped_flat f', by rw [eqv_flat (okV_flat f) (okV_flat f')]; exact k⟩
theorem c_neF {K : PySem.W.Frag} {H : Hp} {Q : VK} {x y : V} (f : okV x = true) (f' : okV y = true) (k : Q (.bl (!eqV x y)) H) : rNeD K x y H Q :=
  ⟨_, _, dp_flat (okV_flat f), dp_flat (okV_flat f'), shaped_flat f, shaped_flat f', by rw [eqv_flat (okV_flat f) (okV_flat f')]; exact k⟩
end L2
namespace L2
open PySem PySem.Spec PyProof.Rows
theorem dec_s {x y : Str} : decide (V.str x = V.str y) = decide (x = y) := by
  by_cases h : x = y
  · subst h; simp
  · rw [decide_eq_false h, decide_eq_false fun e => h (V.str.inj e)]
theorem str_ne {x y : Str} (h : x ≠ y) : decide (V.str x = V.str y) = false := by rw [dec_s]; exact decide_eq_false h
theorem str_eq {x y : Str} (h : x = y) : decide (V.str x = V.str y) = true := by rw [dec_s]; exact decide_eq_true h
end L2

/-! ### list.count of flat things -/
namespace L2
open PySem PySem.Spec PyProof.Rows
theorem countP_eqU {x : V} : ∀ {xs : List V} {us : List Value}, Vals xs us → xs.all flatV = true → us.countP (eqU x) = xs.countP fun y => eqV y x
  | _, _, .nil, _ => rfl
  | y :: xs, u :: us, .cons r t, h => by
    rw [List.all_cons, Bool.and_eq_true] at h
    rw [List.countP_cons, List.countP_cons, countP_eqU t h.2, eqU_of r h.1]
def rCntF (K : PySem.W.Frag) : V → List V → Hp → VK → Prop := fun x xs H Q => ∃ (p : Addr) (ys : List V) (y : V), x = .ref p ∧ xs = [y] ∧ SqL K H p ys ∧ flatV y = true ∧ ys.all flatV = true ∧ Q (.int ((ys.countP fun z => eqV z y : Nat) : Int)) H
theorem mt_countF {X : Cx} : MtR X "list.count" (rCntF X.K) := by
  intro pins s σ H x xs v us Q I rx rxs h
  obtain ⟨p, ys, y, rfl, rfl, hs, fy, fl, q⟩ := h
  cases rx
  obtain ⟨u, rfl, ru⟩ := rxs.one
  obtain ⟨its, rv, ⟨⟨cls, dd, data, sl⟩, n, ho, hc, hdn, hd⟩, hlen⟩ := I.list hs
  simp only at hc hd
  subst hc hd
  have ec : its.toArray.toList.countP (eqU y) = ys.countP fun z => eqV z y := countP_eqU rv fl
  refine call_meets PySem.F.slot_list_count ⟨_, ho, rfl⟩ PySem.F.entry_list_count (PySem.F.args_list_count_2 _ _)
    (SeqAt.list_countAt p its.toArray n dd sl u (eqU y)) ⟨ho, fun z hz => mem_eqAt ru fy rv fl z (by simpa using hz), ?_⟩
  refine ⟨.int ((ys.countP fun z => eqV z y : Nat) : Int), H, I.tok _, ⟨s.toks, ?_⟩, q⟩
  rw [ec]
end L2

/-! ### a list comprehension whose element and test are told by the turn -/
namespace L2
open PySem PySem.Spec PyProof.Rows
theorem range_fm {f : Nat → Option V} {n : Nat} : (List.range (n + 1)).filterMap f = (List.range n).filterMap f ++ (f n).toList := by
  rw [List.range_succ, List.filterMap_append]
  cases h : f n <;> simp [List.filterMap_cons, h]
theorem fm_len {f : Nat → Option V} {n : Nat} : ((List.range n).filterMap f).length ≤ n := by
  have h := List.length_filterMap_le f (List.range n)
  rw [List.length_range] at h
  exact h
section
variable {K : PySem.W.Frag} {σ : St} {H : Hp} {Q : VK} {g : TG} {tt : TT} {te : TE} {vs : List Nat}
/-- one turn: the target, the test, the element come to f i, all that stood kept -/
def LcTurn (g : TG) (tt : TT) (te : TE) (vs : List Nat) (σ : St) (H : Hp) (x : V) (y : Option V) : Prop :=
  ∀ H2, Evl.Ex H H2 → ∀ R : Option V → Hp → Prop, (∀ H3, Evl.Ex H2 H3 → R y H3) →
    g x (wipe σ vs) H2 fun σ2 H3 => wipe σ2 vs = wipe σ vs ∧ tt σ2 H3 fun b H4 => if b = true then te σ2 H4 fun y H5 => R (some y) H5 else R none H4
theorem lc_of {n : Nat} {D : Addr} {H1 : Hp} {f : Nat → Option V} {i : Nat} {H' : Hp} (hn : n ≤ 50000) (hi : i < n) (p1 : H1 D = none) (p2 : Evl.Ex H1 H') (p3 : H' D = some (.lst ((List.range i).filterMap f))) {x : V} (ht : LcTurn g tt te vs σ H1 x (f i)) :
    g x (wipe σ vs) H' fun σ2 H2 => wipe σ2 vs = wipe σ vs ∧ tt σ2 H2 fun b H3 =>
      if b = true then te σ2 H3 fun y H4 => ∃ acc, H4 D = some (.lst acc) ∧ acc.length < sizeLine ∧ (H1 D = none ∧ Evl.Ex H1 (upd H4 D (.lst (acc ++ [y]))) ∧ upd H4 D (.lst (acc ++ [y])) D = some (.lst ((List.range (i + 1)).filterMap f))) else (H1 D = none ∧ Evl.Ex H1 H3 ∧ H3 D = some (.lst ((List.range (i + 1)).filterMap f))) := by
  refine ht H' p2 (fun o H4 => match o with
    | some y => ∃ acc, H4 D = some (.lst acc) ∧ acc.length < sizeLine ∧ (H1 D = none ∧ Evl.Ex H1 (upd H4 D (.lst (acc ++ [y]))) ∧ upd H4 D (.lst (acc ++ [y])) D = some (.lst ((List.range (i + 1)).filterMap f)))
    | none => (H1 D = none ∧ Evl.Ex H1 H4 ∧ H4 D = some (.lst ((List.range (i + 1)).filterMap f)))) (fun H3 e3 => ?_)
  cases hf : f i with
  | some y =>
    refine ⟨_, e3 _ _ p3, ?_, p1, Evl.Ex.mut (p2.trans e3) p1, ?_⟩
    · have := fm_len (f := f) (n := i)
      exact Evl.sz_lt (by omega)
    · rw [upd_same, range_fm, hf] <;> rfl
  | none =>
    refine ⟨p1, p2.trans e3, ?_⟩
    rw [range_fm, hf]
    show H3 D = some (.lst (_ ++ []))
    rw [List.append_nil]
    exact e3 _ _ p3
end
end L2

/-! ### loops -/
namespace L2
open PySem PySem.Spec PyProof.Rows
/-- a loop over what is walked already -/
def ForI (J : It) (g : TG) (tb : TS) (D : Ends) (σ : St) (H : Hp) : Prop := tFor (fun _ H1 R => R J H1) g tb D σ H
section
variable {K : PySem.W.Frag} {σ : St} {H : Hp} {D : Ends} {g : TG} {tb : TS} {ta : TA} {tl : TE}
theorem c_forR1 (h : ta σ H fun vs H1 => ∃ j : Int, vs = [.int j] ∧ -(2 ^ 62) ≤ j ∧ j < 2 ^ 62 ∧ ForI (Itr 0 j.toNat) g tb D σ H1) : tFor (iRng1 ta) g tb D σ H := h
theorem c_forR2 (h : ta σ H fun vs H1 => ∃ i j : Int, vs = [.int i, .int j] ∧ (-(2 ^ 62) ≤ i ∧ i < 2 ^ 62 ∧ -(2 ^ 62) ≤ j ∧ j < 2 ^ 62) ∧ ForI (Itr i (j - i).toNat) g tb D σ H1) : tFor (iRng2 ta) g tb D σ H := h
theorem c_forL (h : tl σ H fun x H1 => ∃ a, x = .ref a ∧ (∃ xs, SqL K H1 a xs) ∧ ForI (Itl K a) g tb D σ H1) : tFor (iList K tl) g tb D σ H := h
theorem c_forT (h : tl σ H fun x H1 => ∃ a, x = .ref a ∧ (∃ xs, SqT K H1 a xs) ∧ ForI (Itt K a) g tb D σ H1) : tFor (iTup K tl) g tb D σ H := h
/-- range(n), n whole and not below 0 or below it -/
theorem forR {n : Nat} {j : Nat} (Pv : Nat → St → Hp → Prop) (h0 : Pv 0 σ H) (hs : ∀ (i : Nat) σ' H', i < n → Pv i σ' H' → tb { D with nx := Pv (i + 1), ct := Pv (i + 1), bk := D.nx } (σ'.set j (some (.int (i : Int)))) H') (hd : ∀ σ' H', Pv n σ' H' → D.nx σ' H') : ForI (Itr 0 n) (gName j) tb D σ H :=
  for_range (lo := 0) (n := n) Pv h0 (fun i σ' H' hi p => by
    have e0 : (0 : Int) + (i : Int) = (i : Int) := Int.zero_add _
    show tb { D with nx := Pv (i + 1), ct := Pv (i + 1), bk := D.nx } (σ'.set j (some (.int ((0 : Int) + (i : Int))))) H'
    rw [e0]
    exact hs i σ' H' hi p) hd
theorem forL {a : Addr} {xs : List V} {j : Nat} (Pv : Nat → St → Hp → Prop) (h0 : Pv 0 σ H) (hl : ∀ i σ' H', i ≤ xs.length → Pv i σ' H' → SqL K H' a xs)
    (hs : ∀ i x σ' H', xs[i]? = some x → Pv i σ' H' → tb { D with nx := Pv (i + 1), ct := Pv (i + 1), bk := D.nx } (σ'.set j (some x)) H') (hd : ∀ σ' H', Pv xs.length σ' H' → D.nx σ' H') : ForI (Itl K a) (gName j) tb D σ H := for_list Pv h0 hl hs hd
theorem forT {a : Addr} {xs : List V} {j : Nat} (Pv : Nat → St → Hp → Prop) (h0 : Pv 0 σ H) (hl : ∀ i σ' H', i ≤ xs.length → Pv i σ' H' → SqT K H' a xs)
    (hs : ∀ i x σ' H', xs[i]? = some x → Pv i σ' H' → tb { D with nx := Pv (i + 1), ct := Pv (i + 1), bk := D.nx } (σ'.set j (some x)) H') (hd : ∀ σ' H', Pv xs.length σ' H' → D.nx σ' H') : ForI (Itt K a) (gName j) tb D σ H := for_tup Pv h0 hl hs hd
end
/-- a comprehension over what is walked already -/
def LcI (J : It) (g : TG) (tt : TT) (te : TE) (vs : List Nat) (σ : St) (H : Hp) (Q : VK) : Prop := tLc (fun _ H1 R => R J H1) g tt te vs σ H Q
section
variable {K : PySem.W.Frag} {σ : St} {H : Hp} {Q : VK} {g : TG} {tt : TT} {te : TE} {vs : List Nat} {ta : TA} {tl : TE}
theorem c_lcR1 (h : ta σ H fun ws H1 => ∃ j : Int, ws = [.int j] ∧ -(2 ^ 62) ≤ j ∧ j < 2 ^ 62 ∧ LcI (Itr 0 j.toNat) g tt te vs σ H1 Q) : tLc (iRng1 ta) g tt te vs σ H Q := h
theorem c_lcLi (h : tl σ H fun x H1 => ∃ a, x = .ref a ∧ (∃ xs, SqL K H1 a xs) ∧ LcI (Itl K a) g tt te vs σ H1 Q) : tLc (iList K tl) g tt te vs σ H Q := h
theorem c_lcTi (h : tl σ H fun x H1 => ∃ a, x = .ref a ∧ (∃ xs, SqT K H1 a xs) ∧ LcI (Itt K a) g tt te vs σ H1 Q) : tLc (iTup K tl) g tt te vs σ H Q := h
theorem lcL {a : Addr} {xs : List V} (f : Nat → Option V) (hs : SqL K H a xs) (hl : xs.length ≤ 50000) (ht : ∀ (i : Nat) (x : V), xs[i]? = some x → LcTurn g tt te vs σ H x (f i)) (k : RetL ((List.range xs.length).filterMap f) H Q) : LcI (Itl K a) g tt te vs σ H Q := by
  refine fun D hD => ?_
  refine lc_list (xs := xs) (fun i H' => H D = none ∧ Evl.Ex H H' ∧ H' D = some (.lst ((List.range i).filterMap f))) ⟨hD, Evl.Ex.new hD, upd_same⟩ (fun i H' _ p => Evl.ex_l p.2.1 hs) (fun i x H' hi p => ?_) (fun H' p => k D H' p.1 p.2.1 p.2.2)
  exact lc_of hl (List.getElem?_eq_some_iff.mp hi).1 p.1 p.2.1 p.2.2 (ht i x hi)
theorem lcT {a : Addr} {xs : List V} (f : Nat → Option V) (hs : SqT K H a xs) (hl : xs.length ≤ 50000) (ht : ∀ (i : Nat) (x : V), xs[i]? = some x → LcTurn g tt te vs σ H x (f i)) (k : RetL ((List.range xs.length).filterMap f) H Q) : LcI (Itt K a) g tt te vs σ H Q := by
  refine fun D hD => ?_
  refine lc_tup (xs := xs) (fun i H' => H D = none ∧ Evl.Ex H H' ∧ H' D = some (.lst ((List.range i).filterMap f))) ⟨hD, Evl.Ex.new hD, upd_same⟩ (fun i H' _ p => Evl.ex_t p.2.1 hs) (fun i x H' hi p => ?_) (fun H' p => k D H' p.1 p.2.1 p.2.2)
  exact lc_of hl (List.getElem?_eq_some_iff.mp hi).1 p.1 p.2.1 p.2.2 (ht i x hi)
theorem lcR {n : Nat} (f : Nat → Option V) (hl : n ≤ 50000) (ht : ∀ (i : Nat), i < n → LcTurn g tt te vs σ H (.int (i : Int)) (f i)) (k : RetL ((List.range n).filterMap f) H Q) : LcI (Itr 0 n) g tt te vs σ H Q := by
  refine fun D hD => ?_
  refine lc_range (lo := 0) (n := n) (fun i H' => H D = none ∧ Evl.Ex H H' ∧ H' D = some (.lst ((List.range i).filterMap f))) ⟨hD, Evl.Ex.new hD, upd_same⟩ (fun i H' hi p => ?_) (fun H' p => k D H' p.1 p.2.1 p.2.2)
  have e0 : (0 : Int) + (i : Int) = (i : Int) := Int.zero_add _
  rw [e0]
  exact lc_of hl hi p.1 p.2.1 p.2.2 (ht i hi)
end
end L2

/-! ### texts -/
namespace L2
open PySem PySem.Spec PyProof.Rows
open TL (tl)
/-- x is b, x is not b, b True or False, x a flat thing -/
def rIsV : R2 := fun x y H Q => ∃ b : Bool, y = .bl b ∧ Q (.bl (decide (x = .bl b))) H
def rNotV : R2 := fun x y H Q => ∃ b : Bool, y = .bl b ∧ Q (.bl (!decide (x = .bl b))) H
section
variable {X : Cx}
theorem isV_plain {x : V} {v : Value} {b : Bool} (rx : RelV x v) : plainIs v (.bool b) = true ∧ (v == Value.bool b) = decide (x = .bl b) := by
  cases x with
  | non => cases (show v = Value.none from rx); exact ⟨rfl, rfl⟩
  | bl c =>
    cases (show v = Value.bool c from rx)
    refine ⟨rfl, ?_⟩
    cases c <;> cases b <;> rfl
  | int i => obtain ⟨t, e⟩ := (show ∃ t, v = Value.int i t from rx); cases e; exact ⟨rfl, rfl⟩
  | str z => obtain ⟨t, e⟩ := (show ∃ t, v = Value.str z t from rx); cases e; exact ⟨rfl, rfl⟩
  | byt z => obtain ⟨t, e⟩ := (show ∃ t, v = Value.bytes z t from rx); cases e; exact ⟨rfl, rfl⟩
  | flt z => obtain ⟨t, e⟩ := (show ∃ t, v = Value.float z t from rx); cases e; exact ⟨rfl, rfl⟩
  | ref a => cases (show v = Value.ref a from rx); exact ⟨rfl, rfl⟩
  | ty n => cases (show v = Value.type n from rx); exact ⟨rfl, rfl⟩
theorem op_isB : OpR X (compareOp .Is) rIsV := by
  intro pins s σ H x y v u Q I rx ry h
  obtain ⟨b, rfl, q⟩ := h
  cases (show u = Value.bool b from ry)
  have z := isV_plain (b := b) rx
  refine wpAny_is_plain z.1 ?_
  rw [z.2]
  exact ⟨.bl _, H, I, rfl, q⟩
theorem op_notB : OpR X (compareOp .IsNot) rNotV := by
  intro pins s σ H x y v u Q I rx ry h
  obtain ⟨b, rfl, q⟩ := h
  cases (show u = Value.bool b from ry)
  have z := isV_plain (b := b) rx
  refine wpAny_isNot_plain z.1 ?_
  rw [z.2]
  exact ⟨.bl _, H, I, rfl, q⟩
end
/-- s * n, n two at least -/
def repS (x : Str) (n : Nat) : Str := ⟨(List.replicate n x.cps).foldl (· ++ ·) #[]⟩
theorem rep_size (a : Array Nat) : ∀ (n : Nat) (acc : Array Nat), ((List.replicate n a).foldl (· ++ ·) acc).size = acc.size + n * a.size
  | 0, acc => by simp
  | n + 1, acc => by
    rw [List.replicate_succ, List.foldl_cons, rep_size a n, Array.size_append, Nat.succ_mul]
    omega
theorem repS_len (x : Str) (n : Nat) : (repS x n).length = n * x.length := by
  show ((List.replicate n x.cps).foldl (· ++ ·) #[]).size = _
  rw [rep_size]
  simp [Str.length]
section
variable {X : Cx}
theorem op_rep_str : OpR X (binaryOp .Mult) (fun x y H Q => ∃ (z : Str) (n : Int), x = .str z ∧ y = .int n ∧ 2 ≤ n ∧ n ≤ 100000 ∧ 0 < z.length ∧ z.length ≤ 100 ∧ Q (.str (repS z n.toNat)) H) := by
  intro pins s σ H x y v u Q I rx ry h
  obtain ⟨z, n, rfl, rfl, h2, h1, z0, z1, q⟩ := h
  obtain ⟨t, rfl⟩ := rx
  obtain ⟨t', rfl⟩ := ry
  have hs : sizeLine = 16777216 := sizeLine_eq
  have hp : z.length * n.toNat ≤ 100 * 100000 := Nat.mul_le_mul z1 (by omega)
  refine PySem.P.mul_str ?_ (fun _ _ => ?_) (fun _ _ => ?_) ?_
  · rw [decide_eq_false (by omega), decide_eq_false (by omega)]; rfl
  · have : (100 : Int) ≤ (2 ^ 63 - 1) / n := by
      rw [Int.le_ediv_iff_mul_le (by omega)]
      omega
    omega
  · unfold Builtin.Str.tooLong
    rw [decide_eq_false (by omega)]
  · rw [if_neg (by omega), if_neg (by
      rw [Bool.or_eq_true, beq_iff_eq, beq_iff_eq]
      omega)]
    refine ⟨?_, .str (repS z n.toNat), H, I.tok _, ⟨_, rfl⟩, q⟩
    have e := repS_len z n.toNat
    rw [Nat.mul_comm] at e
    show (repS z n.toNat).length ≤ sizeLine
    omega
end
/-! loops over a text -/
section
variable {K : PySem.W.Frag} {σ : St} {H : Hp} {D : Ends} {Q : VK} {g : TG} {tb : TS} {tl' : TE} {tt : TT} {te : TE} {vs : List Nat}
theorem c_forS (h : tl' σ H fun v H1 => ∃ x, v = .str x ∧ ForI (Its x) g tb D σ H1) : tFor (iStr tl') g tb D σ H := h
theorem c_lcSi (h : tl' σ H fun v H1 => ∃ x, v = .str x ∧ LcI (Its x) g tt te vs σ H1 Q) : tLc (iStr tl') g tt te vs σ H Q := h
theorem tl_get {x : Str} {i c : Nat} : x.cps[i]? = some c ↔ (tl x)[i]? = some c := by
  show _ ↔ x.cps.toList[i]? = some c
  rw [Array.getElem?_toList]
theorem tl_len (x : Str) : (tl x).length = x.length := by simp [tl, Str.length]
theorem forS {x : Str} {j : Nat} (Pv : Nat → St → Hp → Prop) (h0 : Pv 0 σ H)
    (hs : ∀ i c σ' H', (tl x)[i]? = some c → Pv i σ' H' → tb { D with nx := Pv (i + 1), ct := Pv (i + 1), bk := D.nx } (σ'.set j (some (.str ⟨#[c]⟩))) H') (hd : ∀ σ' H', Pv (tl x).length σ' H' → D.nx σ' H') : ForI (Its x) (gName j) tb D σ H :=
  for_it walk_str Pv h0 (fun _ _ _ _ _ => trivial) (fun i v σ' H' H'' hi p y => by
    obtain ⟨rfl, c, hc, rfl⟩ := y
    exact hs i c σ' H'' (tl_get.mp hc) p) (by
    have e : x.cps.size = (tl x).length := by simp [tl]
    rw [e]
    exact hd)
theorem fm_range {α : Type} {F : α → Option V} : ∀ {l : List α}, (List.range l.length).filterMap (fun i => (l[i]?).bind F) = l.filterMap F
  | [] => rfl
  | a :: l => by
    rw [List.length_cons, List.range_succ_eq_map, List.filterMap_cons, List.filterMap_map, List.filterMap_cons]
    have ih := fm_range (F := F) (l := l)
    rw [List.getElem?_cons_zero, Option.bind_some]
    have e : ((fun i => ((a :: l)[i]?).bind F) ∘ Nat.succ) = fun i => (l[i]?).bind F := by
      funext i
      simp
    rw [e, ih] <;> rfl
theorem lcS {x : Str} (F : Nat → Option V) (hl : x.length ≤ 50000) (ht : ∀ c, c ∈ tl x → LcTurn g tt te vs σ H (.str ⟨#[c]⟩) (F c)) (k : RetL ((tl x).filterMap F) H Q) : LcI (Its x) g tt te vs σ H Q := by
  refine fun D hD => ?_
  have e : x.cps.size = (tl x).length := by simp [tl]
  refine lc_it walk_str (fun i H' => H D = none ∧ Evl.Ex H H' ∧ H' D = some (.lst ((List.range i).filterMap fun i => ((tl x)[i]?).bind F))) ⟨hD, Evl.Ex.new hD, upd_same⟩ (fun _ _ _ _ => trivial) (fun i v H' H'' hi p y => ?_) (fun H' p => k D H' p.1 p.2.1 ?_)
  · obtain ⟨rfl, c, hc, rfl⟩ := y
    have hc2 := tl_get.mp hc
    refine lc_of (n := x.cps.size) (f := fun i => ((tl x)[i]?).bind F) hl hi p.1 p.2.1 p.2.2 ?_
    rw [hc2]
    exact ht c (List.mem_of_getElem? hc2)
  · have q := p.2.2
    rw [e, fm_range] at q
    exact q
/-- the same of a list, by what its things are -/
theorem lcLv {a : Addr} {xs : List V} (F : V → Option V) (hs : SqL K H a xs) (hl : xs.length ≤ 50000) (ht : ∀ x, x ∈ xs → LcTurn g tt te vs σ H x (F x)) (k : RetL (xs.filterMap F) H Q) : LcI (Itl K a) g tt te vs σ H Q := by
  refine lcL (fun i => (xs[i]?).bind F) hs hl (fun i x hi => ?_) ?_
  · rw [hi]
    exact ht x (List.mem_of_getElem? hi)
  · rw [fm_range]
    exact k
end
theorem fm_some {α : Type} {F : α → V} : ∀ (l : List α), l.filterMap (fun c => some (F c)) = l.map F
  | [] => rfl
  | a :: l => by rw [List.filterMap_cons, List.map_cons, fm_some l]
theorem tl_ext {x y : Str} : x = y ↔ tl x = tl y := ⟨fun h => by rw [h], TL.ext_tl⟩
theorem starts_is (x y : Str) : Txt.startswith x y = ((tl x).take (tl y).length == tl y) := by
  unfold Txt.startswith
  rw [StrLaws.subAt_eq]
  show (decide (0 + y.length ≤ x.length) && (((tl x).drop 0).take y.length == tl y)) = _
  rw [List.drop_zero, tl_len]
  cases h : (List.take y.length (tl x) == tl y) with
  | false => rw [Bool.and_false]
  | true =>
    rw [Bool.and_true, decide_eq_true_eq]
    have e := congrArg List.length (beq_iff_eq.mp h)
    rw [List.length_take, tl_len, tl_len] at e
    omega
theorem tl_cut (z : Str) (lo hi : Option Int) : tl (cutS z lo hi) = ((tl z).drop (HT.sIx z.length 0 lo)).take (HT.sIx z.length z.length hi - HT.sIx z.length 0 lo) := rfl
theorem tl_one (c : Nat) : tl ⟨#[c]⟩ = [c] := rfl
end L2
namespace L2
open PySem PySem.Spec PyProof.Rows
open TL (tl)
theorem c_ixS {H : Hp} {Q : VK} {z : Str} {i : Int} {c : Nat} (hz : z.length ≤ 100000) (ha : atI (tl z) i = some c) (q : Q (.str ⟨#[c]⟩) H) : rIxS (.str z) (.int i) H Q := ⟨z, i, c, rfl, rfl, Evl.sz_of hz, ha, q⟩
theorem c_slS {H : Hp} {Q : VK} {z : Str} {lo hi : Option Int} (hz : z.length ≤ 100000) (q : Q (.str (cutS z lo hi)) H) : rSlS (.str z) lo hi H Q := ⟨z, rfl, Evl.sz_of hz, q⟩
theorem sIx_le' (n d : Nat) (hd : d ≤ n) (o : Option Int) : HT.sIx n d o ≤ n := HT.sIx_le n d hd o
theorem add_len (a b : Str) : (a ++ b).length = a.length + b.length := by
  rw [← tl_len, TL.tl_append, List.length_append, tl_len, tl_len]
end L2
namespace L2
open PySem PySem.Spec PyProof.Rows
open TL (tl)
/-- a text whose signs lie within the line -/
def OkT (t : Str) : Prop := ∀ c, c ∈ tl t → c < 1114112
theorem okT_V {t : Str} (h : OkT t) : okV (.str t) = true := by
  show PyData.strOk t = true
  unfold PyData.strOk
  rw [Array.all_eq_true']
  intro c hc
  exact decide_eq_true (h c (Array.mem_toList_iff.mpr hc))
theorem okT_one {c : Nat} (h : c < 1114112) : okV (.str ⟨#[c]⟩) = true := okT_V fun d hd => by
  have : d = c := by simpa [tl] using hd
  omega
theorem OkT.app {a b : Str} (ha : OkT a) (hb : OkT b) : OkT (a ++ b) := fun c hc => by
  rw [TL.tl_append] at hc
  rcases List.mem_append.mp hc with h | h
  · exact ha c h
  · exact hb c h
theorem OkT.cut {a : Str} (ha : OkT a) (lo hi : Option Int) : OkT (cutS a lo hi) := fun c hc => ha c (List.mem_of_mem_drop (List.mem_of_mem_take hc))
theorem OkT.lit {t : Str} (h : (tl t).all (fun c => decide (c < 1114112)) = true) : OkT t := fun c hc => of_decide_eq_true (List.all_eq_true.mp h c hc)
end L2

/-! ### draws within a comprehension; joined texts -/
namespace L2
open PySem PySem.Spec PyProof.Rows
open TL (tl)
section
variable {K : PySem.W.Frag} {σ : St} {H : Hp} {Q : VK} {g : TG} {tt : TT} {te : TE} {vs : List Nat}
theorem BoxAt.some {H : Hp} {b : Addr} (h : BoxAt H b) : ∃ o, H b = Option.some o := let ⟨_, _, _, _, q⟩ := h; ⟨_, q⟩
theorem lcRB {n : Nat} {b : Addr} (good : V → Prop) (hn : n ≤ 1000) (hB : BoxAt H b)
    (ht : ∀ (i : Nat), i < n → ∀ H2, BoxAt H2 b → ExB b H H2 → ∀ (R : V → Hp → Prop) (N : Hp → Prop), (∀ y H3, good y → BoxAt H3 b → ExB b H2 H3 → R y H3) →
      g (.int (i : Int)) (wipe σ vs) H2 fun σ2 H3 => wipe σ2 vs = wipe σ vs ∧ tt σ2 H3 fun c H4 => if c = true then te σ2 H4 fun y H5 => R y H5 else N H4)
    (k : ∀ ys p H2, ys.length = n → (∀ y ∈ ys, good y) → H p = none → ExB b H H2 → BoxAt H2 b → H2 p = some (.lst ys) → Q (.ref p) H2) : LcI (Itr 0 n) g tt te vs σ H Q := by
  refine fun D hD => ?_
  obtain ⟨ob, hob⟩ := hB.some
  have nDb : D ≠ b := (ne_of_none hob hD).symm
  have bx : ∀ {G : Hp} {o : HO}, BoxAt G b → BoxAt (upd G D o) b := fun ⟨x, y, z, p, q⟩ => ⟨x, y, z, p, by rw [upd_ne nDb.symm]; exact q⟩
  have ex : ∀ {G : Hp} {o : HO}, ExB b H G → ExB b H (upd G D o) := fun e a u na ha => by rw [upd_ne (ne_of_none ha hD)]; exact e a u na ha
  refine lc_range (lo := 0) (n := n) (fun i H' => i ≤ n ∧ ExB b H H' ∧ BoxAt H' b ∧ ∃ ys, ys.length = i ∧ (∀ y ∈ ys, good y) ∧ H' D = some (.lst ys)) ⟨Nat.zero_le _, ex (ExB.refl _ _), bx hB, [], rfl, (fun _ h => by cases h), upd_same⟩ (fun i H' hi p => ?_) (fun H' p => ?_)
  · obtain ⟨_, e1, b1, ys, hl, hg, hy⟩ := p
    have e0 : (0 : Int) + (i : Int) = (i : Int) := Int.zero_add _
    rw [e0]
    refine ht i hi H' b1 e1 (fun y H4 => ∃ acc, H4 D = some (.lst acc) ∧ acc.length < sizeLine ∧ (i + 1 ≤ n ∧ ExB b H (upd H4 D (.lst (acc ++ [y]))) ∧ BoxAt (upd H4 D (.lst (acc ++ [y]))) b ∧ ∃ zs, zs.length = i + 1 ∧ (∀ y ∈ zs, good y) ∧ upd H4 D (.lst (acc ++ [y])) D = some (.lst zs))) _ (fun y H3 gy b3 e3 => ?_)
    refine ⟨ys, e3 D _ nDb hy, Evl.sz_lt (by omega), hi, ex (e1.trans e3), bx b3, ys ++ [y], by rw [List.length_append, hl]; rfl, fun z hz => ?_, upd_same⟩
    rcases List.mem_append.mp hz with h | h
    · exact hg z h
    · have : z = y := by simpa using h
      rw [this]
      exact gy
  · obtain ⟨_, e1, b1, ys, hl, hg, hy⟩ := p
    exact k ys D H' hl hg hD e1 b1 hy
end
theorem strs_of {P : Str → Prop} : ∀ {l : List V}, (∀ y ∈ l, ∃ s, y = .str s ∧ P s) → ∃ ss : List Str, l = ss.map V.str ∧ ∀ s ∈ ss, P s
  | [], _ => ⟨[], rfl, fun _ h => by cases h⟩
  | y :: l, h => by
    obtain ⟨s, rfl, hs⟩ := h y List.mem_cons_self
    obtain ⟨ss, rfl, hss⟩ := strs_of fun z hz => h z (List.mem_cons_of_mem _ hz)
    exact ⟨s :: ss, rfl, fun z hz => (List.mem_cons.mp hz).elim (fun e => e ▸ hs) (hss z)⟩
theorem joinL_in {S : List Nat} : ∀ {ps : List (List Nat)} {c : Nat}, c ∈ TL.joinL S ps → c ∈ S ∨ ∃ p ∈ ps, c ∈ p
  | [], c, h => by cases h
  | [p], c, h => .inr ⟨p, List.mem_cons_self, h⟩
  | p :: q :: ps, c, h => by
    have h' : c ∈ p ++ S ++ TL.joinL S (q :: ps) := by first | exact h | simpa [TL.joinL] using h
    rcases List.mem_append.mp h' with h | h
    · rcases List.mem_append.mp h with h | h
      · exact .inr ⟨p, List.mem_cons_self, h⟩
      · exact .inl h
    · rcases joinL_in h with h | ⟨r, hr, hc⟩
      · exact .inl h
      · exact .inr ⟨r, List.mem_cons_of_mem _ hr, hc⟩
theorem joinL_len {S : List Nat} {m : Nat} : ∀ {ps : List (List Nat)}, (∀ p ∈ ps, p.length ≤ m) → (TL.joinL S ps).length ≤ ps.length * (m + S.length)
  | [], _ => by simp [TL.joinL]
  | [p], h => by
    have := h p List.mem_cons_self
    show p.length ≤ _
    simp
    omega
  | p :: q :: ps, h => by
    have h1 := h p List.mem_cons_self
    have ih := joinL_len (S := S) (ps := q :: ps) fun r hr => h r (List.mem_cons_of_mem _ hr)
    have e : TL.joinL S (p :: q :: ps) = p ++ S ++ TL.joinL S (q :: ps) := by first | rfl | simp [TL.joinL]
    rw [e, List.length_append, List.length_append, List.length_cons, Nat.succ_mul]
    omega
theorem join_ok {sep : Str} {ss : List Str} {m : Nat} (ho : OkT sep) (hs : ∀ s ∈ ss, OkT s ∧ s.length ≤ m) : OkT (Txt.join sep ss) ∧ (Txt.join sep ss).length ≤ ss.length * (m + sep.length) := by
  rw [TL.join_eq]
  constructor
  · intro c hc
    rw [TL.tl_join] at hc
    rcases joinL_in hc with h | ⟨p, hp, h⟩
    · exact ho c h
    · obtain ⟨s, hs', rfl⟩ := List.mem_map.mp hp
      exact (hs s hs').1 c h
  · rw [← tl_len, TL.tl_join, ← tl_len sep]
    have := joinL_len (S := tl sep) (m := m) (ps := ss.map tl) fun p hp => by
      obtain ⟨s, hs', rfl⟩ := List.mem_map.mp hp
      rw [tl_len]
      exact (hs s hs').2
    rw [List.length_map] at this
    exact this
theorem sum_len {ss : List Str} {m : Nat} (h : ∀ s ∈ ss, s.length ≤ m) : (ss.map (·.length)).sum ≤ ss.length * m := by
  induction ss with
  | nil => simp
  | cons a l ih =>
    rw [List.map_cons, List.sum_cons, List.length_cons, Nat.succ_mul]
    have := h a List.mem_cons_self
    have := ih fun s hs => h s (List.mem_cons_of_mem _ hs)
    omega
end L2
namespace L2
open PySem PySem.Spec PyProof.Rows
theorem forLg {K : PySem.W.Frag} {σ : St} {H : Hp} {D : Ends} {g : TG} {tb : TS} {a : Addr} {xs : List V} (Pv : Nat → St → Hp → Prop) (h0 : Pv 0 σ H) (hl : ∀ i σ' H', i ≤ xs.length → Pv i σ' H' → SqL K H' a xs)
    (hs : ∀ i x σ' H', xs[i]? = some x → Pv i σ' H' → g x σ' H' fun σ2 H2 => tb { D with nx := Pv (i + 1), ct := Pv (i + 1), bk := D.nx } σ2 H2) (hd : ∀ σ' H', Pv xs.length σ' H' → D.nx σ' H') : ForI (Itl K a) g tb D σ H := for_list Pv h0 hl hs hd
theorem hu65 {A : Around} {k : Nat} (hr : Room k A) : A.units + 65 < cLine := by have := hr.un; omega
end L2

open L2 in
local macro_rules | `(tactic| walk_at "s") => `(tactic| with_reducible (first
  | refine c_var (by with_unfolding_all rfl) ?_ | refine c_c ?_ | refine c_op ?_ | refine c_test ?_ | refine c_cons ?_ | refine c_nil ?_ | refine c_call ?_ | refine c_cb ?_ | refine c_seq ?_ | refine c_asg ?_ | refine c_gName ?_ | refine c_ret ?_ | refine c_ifS ?_
  | refine c_nx ?_ | refine c_rt ?_ | refine c_bk ?_ | refine c_ct ?_ | refine c_next ?_ | refine c_drop ?_ | refine c_un ?_ | refine c_b ?_ | refine c_and ?_ | refine c_or ?_ | refine c_not ?_ | refine c_andV ?_ | refine c_orV ?_ | refine c_notV ?_ | refine c_if ?_
  | refine c_tup ?_ | refine c_lst ?_ | refine c_sl ?_ | refine c_noPart ?_ | refine c_part ?_ | refine c_bm ?_ | refine c_bm0 ?_ | refine c_m0 ?_ | refine c_m1 ?_ | refine c_chain ?_ | refine c_retN ?_ | refine c_gCons ?_ | refine c_gNil ?_ | refine c_gSub ?_
  | refine c_I0 ?_ | refine c_U ?_ | refine c_eq (by with_unfolding_all rfl) ?_ | refine c_ne (by with_unfolding_all rfl) ?_ | refine c_yes ?_ | refine c_forS ?_ | refine c_lcSi ?_ | refine c_forR1 ?_ | refine c_forR2 ?_ | refine c_forL ?_ | refine c_forT ?_ | refine c_lcR1 ?_ | refine c_lcLi ?_ | refine c_lcTi ?_ | refine c_break ?_ | refine c_cont ?_ | refine c_orT ?_ | refine c_andT ?_ | refine c_notT ?_ | refine iteT ?_ | refine iteF ?_ | refine if_nt ?_ | refine if_nf ?_
  | refine ⟨_, rfl, ?_⟩ | refine ⟨_, _, rfl, rfl, ?_⟩ | refine And.intro rfl ?_))
local macro_rules | `(tactic| walk_at "ss") => `(tactic| repeat (walk_at "s"))

namespace Toy
open PySem L2
open Evl hiding RetV RetL
def top (i : Nat) : Stmt := PySem.Challenge.pw_beatrows_k11_words_told.main.body.getD i (.Pass ⟨0, 0, 0, 0⟩)
abbrev s_is_whole : Stmt := top 6
abbrev s_is_within : Stmt := top 7
abbrev s_own_words : Stmt := top 8
abbrev s_is_name : Stmt := top 9
abbrev s_is_pointed : Stmt := top 10
abbrev s_is_value : Stmt := top 11
abbrev s_cell_at_l : Stmt := top 13
abbrev s_box_l : Stmt := top 14
abbrev s_take_l : Stmt := top 15
abbrev s_words_l : Stmt := top 16
abbrev s_name_l : Stmt := top 17
abbrev s_pointed_l : Stmt := top 18
abbrev s_same_l : Stmt := top 19
abbrev s_text_l : Stmt := top 20
abbrev s_word_l : Stmt := top 21
abbrev s_points_l : Stmt := top 22
abbrev s_numbers_l : Stmt := top 23
abbrev s_near_nought_l : Stmt := top 24
abbrev s_law : Stmt := top 25
/-- where the defs stand -/
structure Adr where
  f_is_whole : Addr
  fd_is_whole : FuncData
  f_is_within : Addr
  fd_is_within : FuncData
  f_own_words : Addr
  fd_own_words : FuncData
  f_is_name : Addr
  fd_is_name : FuncData
  f_is_pointed : Addr
  fd_is_pointed : FuncData
  f_is_value : Addr
  fd_is_value : FuncData
  f_cell_at_l : Addr
  fd_cell_at_l : FuncData
  f_box_l : Addr
  fd_box_l : FuncData
  f_take_l : Addr
  fd_take_l : FuncData
  f_words_l : Addr
  fd_words_l : FuncData
  f_name_l : Addr
  fd_name_l : FuncData
  f_pointed_l : Addr
  fd_pointed_l : FuncData
  f_same_l : Addr
  fd_same_l : FuncData
  f_text_l : Addr
  fd_text_l : FuncData
  f_word_l : Addr
  fd_word_l : FuncData
  f_points_l : Addr
  fd_points_l : FuncData
  f_numbers_l : Addr
  fd_numbers_l : FuncData
  f_near_nought_l : Addr
  fd_near_nought_l : FuncData
  f_law : Addr
  fd_law : FuncData
  a_OWN : Addr
structure Txt (K : PySem.W.Frag) (mg : Str → Option Value) (Z : Adr) : Prop where
  F_is_whole : Fun K "is_whole" "is_whole" s_is_whole Z.f_is_whole Z.fd_is_whole
  b_is_whole : Binds K Z.fd_is_whole ["thing"] []
  g_is_whole : mg "is_whole" = some (.ref Z.f_is_whole)
  F_is_within : Fun K "is_within" "is_within" s_is_within Z.f_is_within Z.fd_is_within
  b_is_within : Binds K Z.fd_is_within ["thing", "low", "high"] []
  g_is_within : mg "is_within" = some (.ref Z.f_is_within)
  F_own_words : Fun K "own_words" "own_words" s_own_words Z.f_own_words Z.fd_own_words
  b_own_words : Binds K Z.fd_own_words [] []
  g_own_words : mg "own_words" = some (.ref Z.f_own_words)
  F_is_name : Fun K "is_name" "is_name" s_is_name Z.f_is_name Z.fd_is_name
  b_is_name : Binds K Z.fd_is_name ["thing"] []
  g_is_name : mg "is_name" = some (.ref Z.f_is_name)
  F_is_pointed : Fun K "is_pointed" "is_pointed" s_is_pointed Z.f_is_pointed Z.fd_is_pointed
  b_is_pointed : Binds K Z.fd_is_pointed ["thing"] []
  g_is_pointed : mg "is_pointed" = some (.ref Z.f_is_pointed)
  F_is_value : Fun K "is_value" "is_value" s_is_value Z.f_is_value Z.fd_is_value
  b_is_value : Binds K Z.fd_is_value ["thing"] []
  g_is_value : mg "is_value" = some (.ref Z.f_is_value)
  F_cell_at_l : Fun K "_law_cell_at" "_law_cell_at" s_cell_at_l Z.f_cell_at_l Z.fd_cell_at_l
  b_cell_at_l : Binds K Z.fd_cell_at_l ["_law_script", "_law_k"] []
  g_cell_at_l : mg "_law_cell_at" = some (.ref Z.f_cell_at_l)
  F_box_l : Fun K "_law_box" "_law_box" s_box_l Z.f_box_l Z.fd_box_l
  b_box_l : Binds K Z.fd_box_l ["_law_cell"] []
  g_box_l : mg "_law_box" = some (.ref Z.f_box_l)
  F_take_l : Fun K "_law_take" "_law_take" s_take_l Z.f_take_l Z.fd_take_l
  b_take_l : Binds K Z.fd_take_l ["_law_box_here", "_law_many"] []
  g_take_l : mg "_law_take" = some (.ref Z.f_take_l)
  F_words_l : Fun K "_law_words" "_law_words" s_words_l Z.f_words_l Z.fd_words_l
  b_words_l : Binds K Z.fd_words_l [] []
  g_words_l : mg "_law_words" = some (.ref Z.f_words_l)
  F_name_l : Fun K "_law_name" "_law_name" s_name_l Z.f_name_l Z.fd_name_l
  b_name_l : Binds K Z.fd_name_l ["_law_thing"] []
  g_name_l : mg "_law_name" = some (.ref Z.f_name_l)
  F_pointed_l : Fun K "_law_pointed" "_law_pointed" s_pointed_l Z.f_pointed_l Z.fd_pointed_l
  b_pointed_l : Binds K Z.fd_pointed_l ["_law_thing"] []
  g_pointed_l : mg "_law_pointed" = some (.ref Z.f_pointed_l)
  F_same_l : Fun K "_law_same" "_law_same" s_same_l Z.f_same_l Z.fd_same_l
  b_same_l : Binds K Z.fd_same_l ["_law_found", "_law_due"] []
  g_same_l : mg "_law_same" = some (.ref Z.f_same_l)
  F_text_l : Fun K "_law_text" "_law_text" s_text_l Z.f_text_l Z.fd_text_l
  b_text_l : Binds K Z.fd_text_l ["_law_box_here"] []
  g_text_l : mg "_law_text" = some (.ref Z.f_text_l)
  F_word_l : Fun K "_law_word" "_law_word" s_word_l Z.f_word_l Z.fd_word_l
  b_word_l : Binds K Z.fd_word_l ["_law_box_here"] []
  g_word_l : mg "_law_word" = some (.ref Z.f_word_l)
  F_points_l : Fun K "_law_points" "_law_points" s_points_l Z.f_points_l Z.fd_points_l
  b_points_l : Binds K Z.fd_points_l ["_law_box_here"] []
  g_points_l : mg "_law_points" = some (.ref Z.f_points_l)
  F_numbers_l : Fun K "_law_numbers" "_law_numbers" s_numbers_l Z.f_numbers_l Z.fd_numbers_l
  b_numbers_l : Binds K Z.fd_numbers_l ["_law_box_here"] []
  g_numbers_l : mg "_law_numbers" = some (.ref Z.f_numbers_l)
  F_near_nought_l : Fun K "_law_near_nought" "_law_near_nought" s_near_nought_l Z.f_near_nought_l Z.fd_near_nought_l
  b_near_nought_l : Binds K Z.fd_near_nought_l [] []
  g_near_nought_l : mg "_law_near_nought" = some (.ref Z.f_near_nought_l)
  F_law : Fun K "law" "law" s_law Z.f_law Z.fd_law
  b_law : Binds K Z.fd_law ["_law_script"] []
  g_law : mg "law" = some (.ref Z.f_law)
  n_all : mg "all" = none
  n_bool : mg "bool" = none
  n_int : mg "int" = none
  n_isinstance : mg "isinstance" = none
  n_len : mg "len" = none
  n_list : mg "list" = none
  n_max : mg "max" = none
  n_min : mg "min" = none
  n_range : mg "range" = none
  n_str : mg "str" = none
  c_LETTERS : ∃ u, mg "LETTERS" = some u ∧ RelV (.str "abcdefghijklmnopqrstuvwxyz") u
  c_LONGEST : ∃ u, mg "LONGEST" = some u ∧ RelV (.int 8) u
  c_MOST : ∃ u, mg "MOST" = some u ∧ RelV (.int 1000000000) u
  c_MOST_SIGNS : ∃ u, mg "MOST_SIGNS" = some u ∧ RelV (.int 80) u
  c_OWN : ∃ u, mg "OWN" = some u ∧ RelV (.ref Z.a_OWN) u
  t_OWN : ∀ H, SqT K H Z.a_OWN [.str "node", .str "in", .str "out", .str "before", .str "when", .str "hold", .str "like", .str "same", .str "call", .str "true", .str "false", .str "mod", .str "beat", .str "desk"]
abbrev N_is_whole : List Str := ["thing"]
theorem sc_is_whole : FnScope N_is_whole ["thing"] (defScope s_is_whole) := ⟨rfl, rfl, rfl, by decide +kernel, rfl, by decide +kernel, by decide +kernel⟩
abbrev N_is_within : List Str := ["thing", "low", "high"]
theorem sc_is_within : FnScope N_is_within ["thing", "low", "high"] (defScope s_is_within) := ⟨rfl, rfl, rfl, by decide +kernel, rfl, by decide +kernel, by decide +kernel⟩
abbrev N_own_words : List Str := []
theorem sc_own_words : FnScope N_own_words [] (defScope s_own_words) := ⟨rfl, rfl, rfl, by decide +kernel, rfl, by decide +kernel, by decide +kernel⟩
abbrev N_is_name : List Str := ["thing", "sign"]
theorem sc_is_name : FnScope N_is_name ["thing"] (defScope s_is_name) := ⟨rfl, rfl, rfl, by decide +kernel, rfl, by decide +kernel, by decide +kernel⟩
abbrev N_is_pointed : List Str := ["thing", "part"]
theorem sc_is_pointed : FnScope N_is_pointed ["thing"] (defScope s_is_pointed) := ⟨rfl, rfl, rfl, by decide +kernel, rfl, by decide +kernel, by decide +kernel⟩
abbrev N_is_value : List Str := ["thing"]
theorem sc_is_value : FnScope N_is_value ["thing"] (defScope s_is_value) := ⟨rfl, rfl, rfl, by decide +kernel, rfl, by decide +kernel, by decide +kernel⟩
abbrev N_cell_at_l : List Str := ["_law_script", "_law_k"]
theorem sc_cell_at_l : FnScope N_cell_at_l ["_law_script", "_law_k"] (defScope s_cell_at_l) := ⟨rfl, rfl, rfl, by decide +kernel, rfl, by decide +kernel, by decide +kernel⟩
abbrev N_box_l : List Str := ["_law_cell"]
theorem sc_box_l : FnScope N_box_l ["_law_cell"] (defScope s_box_l) := ⟨rfl, rfl, rfl, by decide +kernel, rfl, by decide +kernel, by decide +kernel⟩
abbrev N_take_l : List Str := ["_law_box_here", "_law_many", "_law_digit", "_law_number", "_law_high", "_law_low"]
theorem sc_take_l : FnScope N_take_l ["_law_box_here", "_law_many"] (defScope s_take_l) := ⟨rfl, rfl, rfl, by decide +kernel, rfl, by decide +kernel, by decide +kernel⟩
abbrev N_words_l : List Str := []
theorem sc_words_l : FnScope N_words_l [] (defScope s_words_l) := ⟨rfl, rfl, rfl, by decide +kernel, rfl, by decide +kernel, by decide +kernel⟩
abbrev N_name_l : List Str := ["_law_thing", "_law_sign"]
theorem sc_name_l : FnScope N_name_l ["_law_thing"] (defScope s_name_l) := ⟨rfl, rfl, rfl, by decide +kernel, rfl, by decide +kernel, by decide +kernel⟩
abbrev N_pointed_l : List Str := ["_law_thing", "_law_part"]
theorem sc_pointed_l : FnScope N_pointed_l ["_law_thing"] (defScope s_pointed_l) := ⟨rfl, rfl, rfl, by decide +kernel, rfl, by decide +kernel, by decide +kernel⟩
abbrev N_same_l : List Str := ["_law_found", "_law_due"]
theorem sc_same_l : FnScope N_same_l ["_law_found", "_law_due"] (defScope s_same_l) := ⟨rfl, rfl, rfl, by decide +kernel, rfl, by decide +kernel, by decide +kernel⟩
abbrev N_text_l : List Str := ["_law_box_here", "_law_text_here", "_law_k", "_law_at"]
theorem sc_text_l : FnScope N_text_l ["_law_box_here"] (defScope s_text_l) := ⟨rfl, rfl, rfl, by decide +kernel, rfl, by decide +kernel, by decide +kernel⟩
abbrev N_word_l : List Str := ["_law_box_here", "_law_words_here", "_law_word_here"]
theorem sc_word_l : FnScope N_word_l ["_law_box_here"] (defScope s_word_l) := ⟨rfl, rfl, rfl, by decide +kernel, rfl, by decide +kernel, by decide +kernel⟩
abbrev N_points_l : List Str := ["_law_box_here", "_law_parts", "_law_k", "_law_part", "_law_j"]
theorem sc_points_l : FnScope N_points_l ["_law_box_here"] (defScope s_points_l) := ⟨rfl, rfl, rfl, by decide +kernel, rfl, by decide +kernel, by decide +kernel⟩
abbrev N_numbers_l : List Str := ["_law_box_here", "_law_low", "_law_high", "_law_near", "_law_thing", "_law_truth", "_law_whole"]
theorem sc_numbers_l : FnScope N_numbers_l ["_law_box_here"] (defScope s_numbers_l) := ⟨rfl, rfl, rfl, by decide +kernel, rfl, by decide +kernel, by decide +kernel⟩
abbrev N_near_nought_l : List Str := ["_law_low", "_law_high", "_law_thing", "_law_whole"]
theorem sc_near_nought_l : FnScope N_near_nought_l [] (defScope s_near_nought_l) := ⟨rfl, rfl, rfl, by decide +kernel, rfl, by decide +kernel, by decide +kernel⟩
abbrev N_law : List Str := ["_law_script", "_law_k", "_law_box_here", "_law_some", "_law_thing", "_law_word_here", "_law_told"]
theorem sc_law : FnScope N_law ["_law_script"] (defScope s_law) := ⟨rfl, rfl, rfl, by decide +kernel, rfl, by decide +kernel, by decide +kernel⟩
section
variable {P : Program} {w : World} {K : PySem.W.Frag} {mg : Str → Option Value} {base : Heap} {Z : Adr}
/-! ### words: whole numbers, values -/
def sp_is_whole (K : PySem.W.Frag) : Sp := fun vs H Q _ => ∃ (v : V) (n : String) (b1 b2 : Bool), vs = [v] ∧ TyX K H v (.type n) ∧ kitB n "int" = some b1 ∧ kitB n "bool" = some b2 ∧ Q (.bl (b1 && !b2)) H
theorem u_whole_int {K : PySem.W.Frag} {H : Hp} {Q : VK} {E : XK} {i : Int} (q : Q (.bl true) H) : sp_is_whole K [.int i] H Q E := ⟨_, _, _, _, rfl, ty_int i, kb_ii, kb_ib, q⟩
theorem u_whole_bl {K : PySem.W.Frag} {H : Hp} {Q : VK} {E : XK} {i : Bool} (q : Q (.bl false) H) : sp_is_whole K [.bl i] H Q E := ⟨_, _, _, _, rfl, ty_bl i, kb_bi, kb_bb, q⟩
def sp_is_within (K : PySem.W.Frag) : Sp := fun vs H Q _ => ∃ (v : V) (lo hi : Int), vs = [v, .int lo, .int hi] ∧
  ((∃ i, v = .int i ∧ Q (.bl (decide (lo ≤ i) && decide (i ≤ hi))) H) ∨ ∃ (n : String) (b1 b2 : Bool), TyX K H v (.type n) ∧ kitB n "int" = some b1 ∧ kitB n "bool" = some b2 ∧ (b1 && !b2) = false ∧ Q (.bl false) H)
def sp_is_value (K : PySem.W.Frag) : Sp := fun vs H Q _ => ∃ (v : V), vs = [v] ∧
  ((∃ i, v = .int i ∧ Q (.bl (decide (-1000000000 ≤ i) && decide (i ≤ 1000000000))) H) ∨ (∃ b, v = .bl b ∧ Q (.bl true) H) ∨ ∃ (n : String), TyX K H v (.type n) ∧ kitB n "int" = some false ∧ kitB n "bool" = some false ∧ Q (.bl false) H)
theorem ok_is_whole (T : Txt K mg Z) : FnOk P w K mg base CX0 1 Z.f_is_whole Z.fd_is_whole ["thing"] (sp_is_whole K) := by
  refine T.F_is_whole.ok sc_is_whole (fun vs H Q E h => ?_) (fun cdv AA outer s H vs Q E hr h => ?_)
  · obtain ⟨v, n, b1, b2, rfl, _⟩ := h
    rfl
  · obtain ⟨v, n, b1, b2, rfl, ty, h1, h2, k⟩ := h
    refine ⟨_, (pss_one (ps_ret (pe_and (pe_callB call_isi (by rfl) T.n_isinstance (by decide +kernel) (pa_cons (pv 0) (pa_cons (pe_bltn (v := .ty "int") (by rfl) T.n_int (by decide +kernel) rfl) pa_nil))) (pe_one (pe_not (pe_callB call_isi (by rfl) T.n_isinstance (by decide +kernel) (pa_cons (pv 0) (pa_cons (pe_bltn (v := .ty "bool") (by rfl) T.n_bool (by decide +kernel) rfl) pa_nil)))))))), ?_⟩
    walk_at "ss"
    refine isi ty h1 ?_
    walk_at "ss"
    refine if_cs (fun hb => ?_) (fun hb => ?_)
    · walk_at "ss"
      refine isi ty h2 ?_
      walk_at "ss"
      subst hb
      exact k
    · walk_at "ss"
      subst hb
      exact k
theorem ok_is_within (T : Txt K mg Z) : FnOk P w K mg base CX0 2 Z.f_is_within Z.fd_is_within ["thing", "low", "high"] (sp_is_within K) := by
  have G_is_whole := ok_is_whole (P := P) (w := w) (base := base) T
  refine T.F_is_within.ok sc_is_within (fun vs H Q E h => ?_) (fun cdv AA outer s H vs Q E hr h => ?_)
  · obtain ⟨v, lo, hi, rfl, _⟩ := h
    rfl
  · obtain ⟨v, lo, hi, rfl, k⟩ := h
    refine ⟨_, (pss_one (ps_ret (pe_and (pe_call G_is_whole (hr.mono (by decide)) rfl T.g_is_whole T.F_is_whole.kp T.b_is_whole .nil pass0 (pa_cons (pv 0) pa_nil)) (pe_one (pe_chain op_le op_le (pv 1) (pv 0) (pv 2)))))), ?_⟩
    rcases k with ⟨i, rfl, k⟩ | ⟨n, b1, b2, ty, h1, h2, hb, k⟩
    · walk_at "ss"
      refine u_whole_int ?_
      walk_at "ss"
      refine if_cs (fun hb => ?_) (fun hb => ?_)
      · walk_at "ss"
        rw [hb] at k
        exact k
      · walk_at "ss"
        rw [hb] at k
        exact k
    · walk_at "ss"
      refine ⟨_, _, _, _, rfl, ty, h1, h2, ?_⟩
      walk_at "ss"
      exact if_ff hb k
theorem ok_is_value (T : Txt K mg Z) : FnOk P w K mg base CX0 3 Z.f_is_value Z.fd_is_value ["thing"] (sp_is_value K) := by
  have G_is_within := ok_is_within (P := P) (w := w) (base := base) T
  refine T.F_is_value.ok sc_is_value (fun vs H Q E h => ?_) (fun cdv AA outer s H vs Q E hr h => ?_)
  · obtain ⟨v, rfl, _⟩ := h
    rfl
  · obtain ⟨v, rfl, k⟩ := h
    refine ⟨_, (pss_one (ps_ret (pe_or (pe_callB call_isi (by rfl) T.n_isinstance (by decide +kernel) (pa_cons (pv 0) (pa_cons (pe_bltn (v := .ty "bool") (by rfl) T.n_bool (by decide +kernel) rfl) pa_nil))) (pe_one (pe_call G_is_within (hr.mono (by decide)) rfl T.g_is_within T.F_is_within.kp T.b_is_within .nil pass0 (pa_cons (pv 0) (pa_cons (pe_un un_neg (pe_gcst rfl T.c_MOST)) (pa_cons (pe_gcst rfl T.c_MOST) pa_nil)))))))), ?_⟩
    rcases k with ⟨i, rfl, k⟩ | ⟨b, rfl, k⟩ | ⟨n, ty, h1, h2, k⟩
    · walk_at "ss"
      refine isi (ty_int i) kb_ib ?_
      walk_at "ss"
      refine ⟨_, _, _, rfl, .inl ⟨_, rfl, ?_⟩⟩
      exact k
    · walk_at "ss"
      refine isi (ty_bl b) kb_bb ?_
      walk_at "ss"
      exact k
    · walk_at "ss"
      refine isi ty h2 ?_
      walk_at "ss"
      refine ⟨_, _, _, rfl, .inr ⟨_, _, _, ty, h1, h2, rfl, ?_⟩⟩
      exact k

/-! ### the law's cells and draws -/
def sp_cell_at_l (K : PySem.W.Frag) : Sp := fun vs H Q _ => ∃ (a : Addr) (ns : List Int) (k : Int), vs = [.ref a, .int k] ∧ SqL K H a (ns.map V.int) ∧ 0 ≤ k ∧ ∀ n, Q (.int n) H
def sp_box_l : Sp := fun vs H Q _ => ∃ (c : Int), vs = [.int c] ∧ ∀ p H2, H p = none → Ex H H2 → BoxAt H2 p → Q (.ref p) H2
def sp_take_l : Sp := fun vs H Q _ => ∃ (b : Addr) (m : Int), vs = [.ref b, .int m] ∧ BoxAt H b ∧ 0 < m ∧ m < 1073741824 ∧ ∀ d H2, 0 ≤ d → d < m → ExB b H H2 → BoxAt H2 b → Q (.int d) H2
theorem ok_cell_at_l (T : Txt K mg Z) : FnOk P w K mg base CX0 1 Z.f_cell_at_l Z.fd_cell_at_l ["_law_script", "_law_k"] (sp_cell_at_l K) := by
  refine T.F_cell_at_l.ok sc_cell_at_l (fun vs H Q E h => ?_) (fun cdv AA outer s H vs Q E hr h => ?_)
  · obtain ⟨a, ns, k, rfl, _⟩ := h
    rfl
  · obtain ⟨a, ns, k, rfl, hS, h0, q⟩ := h
    refine ⟨_, (pss_cons (ps_if (pt_cmpR op_lt (pv 1) (pe_callB call_len_seq (by rfl) T.n_len (by decide +kernel) (pa_cons (pv 0) pa_nil)) (nomark _)) (pss_one (ps_ret (pe_ix ix_list (pv 0) (pv 1) (fun _ _ => rfl)))) pss_nil)
      (pss_one (ps_ret (pe_op op_add (pe_op op_mul pe_int (pv 1)) pe_int)))), ?_⟩
    walk_at "ss"
    refine ⟨_, _, rfl, .inl hS, ?_⟩
    walk_at "ss"
    refine if_cs (fun hb => ?_) (fun hb => ?_)
    · walk_at "ss"
      obtain ⟨j, rfl⟩ := Int.eq_ofNat_of_zero_le h0
      have hl := of_decide_eq_true hb
      rw [List.length_map] at hl
      have hj : j < ns.length := by omega
      refine c_ixL hS (atI_nat (v := .int (ns[j]'hj)) ?_) (q _)
      rw [List.getElem?_map, List.getElem?_eq_getElem hj] <;> rfl
    · walk_at "ss"
      refine c_I (.inl ⟨by decide, by decide⟩) ?_
      walk_at "ss"
      exact q _
theorem int_mul01 {a : Int} {b : Bool} : CMul a (if b = true then 1 else 0) := by
  refine .inr ?_
  cases b
  · exact ⟨by decide, by decide⟩
  · exact ⟨by decide, by decide⟩
theorem ok_box_l (T : Txt K mg Z) : FnOk P w K mg base CX0 1 Z.f_box_l Z.fd_box_l ["_law_cell"] sp_box_l := by
  refine T.F_box_l.ok sc_box_l (fun vs H Q E h => ?_) (fun cdv AA outer s H vs Q E hr h => ?_)
  · obtain ⟨c, rfl, _⟩ := h
    rfl
  · obtain ⟨c, rfl, k⟩ := h
    refine ⟨_, (pss_one (ps_ret (pe_lst (pa_cons (pe_op op_mul (pe_callB (call_max2 rfl) (by rfl) T.n_max (by decide +kernel) (pa_cons pe_int (pa_cons (pv 0) pa_nil))) (pe_callTy call_int1 (by rfl) T.n_int (by decide +kernel) (pa_cons (pe_cmpR op_ge (pv 0) (pe_op op_pow pe_int pe_int) (nomark _)) pa_nil))) (pa_cons (pe_op op_mod (pv 0) pe_int) (pa_cons pe_int pa_nil)))))), ?_⟩
    walk_at "ss"
    refine ⟨_, _, rfl, ?_⟩
    walk_at "ss"
    refine c_I ⟨by decide, by decide, by decide⟩ ?_
    walk_at "ss"
    refine .inr ⟨_, rfl, ?_⟩
    walk_at "ss"
    refine c_I int_mul01 ?_
    walk_at "ss"
    refine c_I (by decide) ?_
    walk_at "ss"
    refine newL fun p H2 hp e2 h2 => k p H2 hp e2 ⟨_, _, _, ?_, h2⟩
    refine Int.mul_nonneg ?_ ?_
    · split <;> omega
    · split <;> omega
theorem ix3_0 {a b c : V} : atI [a, b, c] 0 = some a := rfl
theorem ix3_1 {a b c : V} : atI [a, b, c] 1 = some b := rfl
theorem ix3_2 {a b c : V} : atI [a, b, c] 2 = some c := rfl
theorem emod_mul {a m : Int} (h : 0 < m) (hm : m < 1073741824 * 1073741824) {b : Int} : CMul (a % m) b := by
  have h1 := Int.emod_nonneg a (by omega : m ≠ 0)
  have h2 := Int.emod_lt_of_pos a h
  exact .inl ⟨by omega, by omega⟩
theorem ok_take_l (T : Txt K mg Z) : FnOk P w K mg base CX0 1 Z.f_take_l Z.fd_take_l ["_law_box_here", "_law_many"] sp_take_l := by
  refine T.F_take_l.ok sc_take_l (fun vs H Q E h => ?_) (fun cdv AA outer s H vs Q E hr h => ?_)
  · obtain ⟨b, m, rfl, _⟩ := h
    rfl
  · obtain ⟨b, m, rfl, ⟨x, y, z, hx, hB⟩, m0, m1, k⟩ := h
    refine ⟨_, (pss_cons (ps_if (pt_cmpR op_gt (pe_ix ix_list (pv 0) pe_int (fun _ _ => rfl)) pe_int (nomark _)) (pss_cons (ps_set (i := 2) sc_take_l.nd rfl (Or.inl rfl) (pe_op op_mod (pe_ix ix_list (pv 0) pe_int (fun _ _ => rfl)) (pv 1)))
      (pss_cons (ps_asg (pe_op op_fdiv (pe_ix ix_list (pv 0) pe_int (fun _ _ => rfl)) (pv 1)) (pg_sub (pv 0) pe_int set_list))
      (pss_one (ps_ret (pv 2))))) pss_nil)
      (pss_cons (ps_asg (pe_op op_add (pe_ix ix_list (pv 0) pe_int (fun _ _ => rfl)) pe_int) (pg_sub (pv 0) pe_int set_list))
      (pss_cons (ps_set (i := 3) sc_take_l.nd rfl (Or.inl rfl) (pe_op op_mod (pe_op op_mul (pe_op op_add (pe_ix ix_list (pv 0) pe_int (fun _ _ => rfl)) (pe_op op_mul pe_int (pe_ix ix_list (pv 0) pe_int (fun _ _ => rfl)))) pe_int) pe_int))
      (pss_cons (ps_set (i := 3) sc_take_l.nd rfl (Or.inl rfl) (pe_op op_mod (pe_op op_mul (pv 3) (pv 3)) pe_int))
      (pss_cons (ps_set (i := 4) sc_take_l.nd rfl (Or.inl rfl) (pe_op op_fdiv (pe_op op_mod (pe_op op_mul (pe_op op_add (pv 3) (pe_ix ix_list (pv 0) pe_int (fun _ _ => rfl))) (pe_op op_add (pv 3) pe_int)) pe_int) pe_int))
      (pss_cons (ps_set (i := 5) sc_take_l.nd rfl (Or.inl rfl) (pe_op op_mod (pe_op op_add (pe_op op_mul (pv 3) pe_int) (pe_op op_mul pe_int (pe_ix ix_list (pv 0) pe_int (fun _ _ => rfl)))) pe_int))
      (pss_one (ps_ret (pe_op op_mod (pe_op op_add (pe_op op_mul (pv 4) pe_int) (pe_op op_mod (pe_op op_mul (pv 5) (pv 5)) pe_int)) (pv 1)))))))))), ?_⟩
    walk_at "ss"
    refine c_ixL (SqL.of hB) ix3_0 ?_
    walk_at "ss"
    refine if_cs (fun hb => ?_) (fun hb => ?_)
    · walk_at "ss"
      refine c_ixL (SqL.of hB) ix3_0 ?_
      walk_at "ss"
      refine c_I m0 ?_
      walk_at "ss"
      refine c_ixL (SqL.of hB) ix3_0 ?_
      walk_at "ss"
      refine c_I ⟨m0, m1⟩ ?_
      walk_at "ss"
      refine c_setL hB rfl ?_
      walk_at "ss"
      refine k _ _ (Int.emod_nonneg _ (by omega)) (Int.emod_lt_of_pos _ m0) ExB.upd ⟨_, _, _, Int.ediv_nonneg hx (by omega), upd_same⟩
    · walk_at "ss"
      refine c_ixL (SqL.of hB) ix3_2 ?_
      walk_at "ss"
      refine c_setL hB rfl ?_
      have hB2 : (upd H b (.lst [.int x, .int y, .int (z + 1)])) b = some (.lst [.int x, .int y, .int (z + 1)]) := upd_same
      walk_at "ss"
      refine c_ixL (SqL.of hB2) ix3_1 ?_
      walk_at "ss"
      refine c_ixL (SqL.of hB2) ix3_2 ?_
      walk_at "ss"
      refine c_I (.inl ⟨by decide, by decide⟩) ?_
      walk_at "ss"
      refine c_I (.inr ⟨by decide, by decide⟩) ?_
      walk_at "ss"
      refine c_I (by decide) ?_
      walk_at "ss"
      refine c_I (emod_mul (by decide) (by decide)) ?_
      walk_at "ss"
      refine c_I (by decide) ?_
      walk_at "ss"
      refine c_ixL (SqL.of hB2) ix3_2 ?_
      walk_at "ss"
      refine c_I (.inr ?_) ?_
      · have h1 := Int.emod_nonneg ((y + 7919 * (z + 1)) * 48271 % 2147483647 * ((y + 7919 * (z + 1)) * 48271 % 2147483647)) (by decide : (2147483629 : Int) ≠ 0)
        have h2 := Int.emod_lt_of_pos ((y + 7919 * (z + 1)) * 48271 % 2147483647 * ((y + 7919 * (z + 1)) * 48271 % 2147483647)) (by decide : (0 : Int) < 2147483629)
        exact ⟨by omega, by omega⟩
      walk_at "ss"
      refine c_I (by decide) ?_
      walk_at "ss"
      refine c_I ⟨by decide, by decide⟩ ?_
      walk_at "ss"
      refine c_I (.inr ⟨by decide, by decide⟩) ?_
      walk_at "ss"
      refine c_ixL (SqL.of hB2) ix3_2 ?_
      walk_at "ss"
      refine c_I (.inl ⟨by decide, by decide⟩) ?_
      walk_at "ss"
      refine c_I (by decide) ?_
      walk_at "ss"
      refine c_I (.inr ⟨by decide, by decide⟩) ?_
      walk_at "ss"
      refine c_I (emod_mul (by decide) (by decide)) ?_
      walk_at "ss"
      refine c_I (by decide) ?_
      walk_at "ss"
      refine c_I m0 ?_
      walk_at "ss"
      exact k _ _ (Int.emod_nonneg _ (by omega)) (Int.emod_lt_of_pos _ m0) ExB.upd ⟨_, _, _, hx, upd_same⟩

theorem box_ne {H : Hp} {b a : Addr} {o : HO} (h : BoxAt H b) (ha : H a = some o) (n : ∀ x y z : Int, o ≠ .lst [.int x, .int y, .int z]) : a ≠ b := by
  obtain ⟨x, y, z, _, q⟩ := h
  exact ne_of ha q (n x y z)
theorem at4 {v0 v1 v2 v3 : V} {d : Int} (h0 : 0 ≤ d) (h1 : d < 4) : ∃ v, atI [v0, v1, v2, v3] d = some v ∧ (d = 0 ∧ v = v0 ∨ d = 1 ∧ v = v1 ∨ d = 2 ∧ v = v2 ∨ d = 3 ∧ v = v3) := by
  have : d = 0 ∨ d = 1 ∨ d = 2 ∨ d = 3 := by omega
  rcases this with rfl | rfl | rfl | rfl
  · exact ⟨v0, rfl, .inl ⟨rfl, rfl⟩⟩
  · exact ⟨v1, rfl, .inr (.inl ⟨rfl, rfl⟩)⟩
  · exact ⟨v2, rfl, .inr (.inr (.inl ⟨rfl, rfl⟩))⟩
  · exact ⟨v3, rfl, .inr (.inr (.inr ⟨rfl, rfl⟩))⟩
/-- an item of a list that is asked by a draw: it is one of them -/
theorem at_in {xs : List V} {d : Int} (h0 : 0 ≤ d) (h1 : d < (xs.length : Int)) : ∃ v, atI xs d = some v ∧ v ∈ xs := by
  obtain ⟨j, rfl⟩ := Int.eq_ofNat_of_zero_le h0
  have hj : j < xs.length := by omega
  exact ⟨xs[j], atI_nat (List.getElem?_eq_getElem hj), List.getElem_mem hj⟩

/-! ### names -/
open TL (tl)
def ownW : List Str := ["node", "in", "out", "before", "when", "hold", "like", "same", "call", "true", "false", "mod", "beat", "desk"]
def ownV : List V := ownW.map V.str
def letC (c : Nat) : Bool := decide (97 ≤ c) && decide (c ≤ 122)
theorem tl_let : ∀ c : Nat, decide (c ∈ tl "abcdefghijklmnopqrstuvwxyz") = letC c := by
  intro c
  have e : tl "abcdefghijklmnopqrstuvwxyz" = [97, 98, 99, 100, 101, 102, 103, 104, 105, 106, 107, 108, 109, 110, 111, 112, 113, 114, 115, 116, 117, 118, 119, 120, 121, 122] := by decide +kernel
  rw [e]
  unfold letC
  rw [Bool.eq_iff_iff, decide_eq_true_eq, Bool.and_eq_true, decide_eq_true_eq, decide_eq_true_eq]
  simp only [List.mem_cons, List.not_mem_nil, or_false]
  omega
def isName (t : Str) : Bool := (decide (1 ≤ (t.length : Int)) && decide ((t.length : Int) ≤ 8)) && !inV (.str t) ownV && (tl t).all letC
def isPointed (t : Str) : Bool := decide ((t.length : Int) ≤ 80) && (Txt.split t ".").all isName
theorem kb_ss : kitB "str" "str" = some true := by decide +kernel
def sp_own_words : Sp := fun vs H Q _ => vs = [] ∧ RetL ownV H Q
theorem ok_own_words (T : Txt K mg Z) : FnOk P w K mg base CX0 1 Z.f_own_words Z.fd_own_words [] sp_own_words := by
  refine T.F_own_words.ok sc_own_words (fun vs H Q E h => ?_) (fun cdv AA outer s H vs Q E hr h => ?_)
  · obtain ⟨rfl, _⟩ := h
    rfl
  · obtain ⟨rfl, k⟩ := h
    refine ⟨_, (pss_one (ps_ret (pe_callTy call_list_of (by rfl) T.n_list (by decide +kernel) (pa_cons (pe_gcst rfl T.c_OWN) pa_nil)))), ?_⟩
    walk_at "ss"
    refine ⟨_, _, rfl, .inr (T.t_OWN _), fun l hl => ?_⟩
    exact k l _ hl (Ex.new hl) upd_same
def sp_is_name (K : PySem.W.Frag) : Sp := fun vs H Q _ => ∃ (v : V), vs = [v] ∧ ((∃ t : Str, v = .str t ∧ t.length ≤ 50000 ∧ RetV (.bl (isName t)) H Q) ∨ ∃ n : String, TyX K H v (.type n) ∧ kitB n "str" = some false ∧ Q (.bl false) H)
theorem own_flat : ownV.all flatV = true := rfl
theorem ok_is_name (T : Txt K mg Z) : FnOk P w K mg base CX0 1 Z.f_is_name Z.fd_is_name ["thing"] (sp_is_name K) := by
  refine T.F_is_name.ok sc_is_name (fun vs H Q E h => ?_) (fun cdv AA outer s H vs Q E hr h => ?_)
  · obtain ⟨v, rfl, _⟩ := h
    rfl
  · obtain ⟨v, rfl, h⟩ := h
    refine ⟨_, (pss_cons (ps_if (PW.pt (pw_or (pt_not (pt_val (pe_callB call_isi (by rfl) T.n_isinstance (by decide +kernel) (pa_cons (pv 0) (pa_cons (pe_bltn (v := .ty "str") (by rfl) T.n_str (by decide +kernel) rfl) pa_nil))))) (pw_or (pt_not (pt_chain op_le op_le pe_int (pe_callB call_len_str (by rfl) T.n_len (by decide +kernel) (pa_cons (pv 0) pa_nil)) (pe_gcst rfl T.c_LONGEST))) (pw_or1 (pt_cmpR op_in_seq (pv 0) (pe_gcst rfl T.c_OWN) (by rfl)))))) (pss_one (ps_ret pe_bl)) pss_nil)
      (pss_one (ps_ret (pe_callB (cr_all rfl) (by rfl) T.n_all (by decide +kernel) (pa_cons (pe_lc (own := [("sign", 1)]) (g := (gName 1)) (tt := tYes) (te := (tOp (fun x y H Q => ∃ (c : Nat) (z : Str), x = .str ⟨#[c]⟩ ∧ y = .str z ∧ Q (.bl (decide (c ∈ z.cps.toList))) H) (tVar 1) (tC (.str "abcdefghijklmnopqrstuvwxyz")))) rfl sc_is_name.nd (pi_str (pv 0)) (blkOk_by (own := [("sign", 1)]) (N := N_is_name) (sc := defScope s_is_name) (by decide +kernel)) (fun _ _ _ _ _ => (pg_name (i := 1) sc_is_name.nd rfl (Or.inl rfl))) (fun _ _ _ _ _ => pts_nil) (fun _ _ _ _ _ => (pe_cmpR op_in_sign (pv 1) (pe_gcst rfl T.c_LETTERS) (by rfl)))) pa_nil))))), ?_⟩
    rcases h with ⟨t, rfl, hl, k⟩ | ⟨n, ty, kb, k⟩
    · unfold isName at k
      walk_at "ss"
      refine isi (ty_str t) kb_ss ?_
      walk_at "ss"
      refine ⟨Evl.sz_of (by omega), ?_⟩
      walk_at "ss"
      cases hlen : (decide (1 ≤ (t.length : Int)) && decide ((t.length : Int) ≤ 8)) with
      | false =>
        rw [hlen] at k
        refine if_cs (fun h1 => ?_) (fun h1 => ?_)
        · walk_at "ss"
          rw [h1, Bool.true_and] at hlen
          rw [hlen]
          walk_at "ss"
          exact k _ (Ex.refl _)
        · walk_at "ss"
          exact k _ (Ex.refl _)
      | true =>
        rw [hlen, Bool.true_and] at k
        rw [Bool.and_eq_true] at hlen
        rw [hlen.1]
        walk_at "ss"
        rw [hlen.2]
        walk_at "ss"
        refine c_in (.inr (T.t_OWN _)) rfl own_flat ?_
        refine ⟨_, rfl, if_cs (fun ho => ?_) (fun ho => ?_)⟩
        · have ho' : inV (.str t) ownV = true := ho
          rw [ho'] at k
          walk_at "ss"
          exact k _ (Ex.refl _)
        have ho' : inV (.str t) ownV = false := ho
        rw [ho', Bool.not_false, Bool.true_and] at k
        walk_at "ss"
        refine lcS (fun c => some (.bl (letC c))) hl (fun c hc => ?_) ?_
        · intro H2 e2 R hR
          walk_at "ss"
          rw [show decide (c ∈ (Str.ofString "abcdefghijklmnopqrstuvwxyz").cps.toList) = letC c from tl_let c]
          exact hR _ (Ex.refl _)
        rw [fm_some]
        intro p H2 hp e2 h2
        walk_at "ss"
        refine ⟨p, (tl t).map letC, rfl, SqL.of (by rw [h2, List.map_map]; rfl), ?_⟩
        have ea : ((tl t).map letC).all id = (tl t).all letC := by rw [List.all_map]; rfl
        rw [ea]
        exact k _ e2
    · walk_at "ss"
      refine isi ty kb ?_
      walk_at "ss"
      exact k
/-! parts of a split text -/
theorem spl_parts (S : List Nat) : ∀ (k : Nat) (acc l : List Nat) (p : List Nat), p ∈ TL.spl S k acc l → p.length ≤ acc.length + l.length ∧ ∀ c ∈ p, c ∈ acc ∨ c ∈ l := by
  intro k acc l
  induction l generalizing k acc with
  | nil =>
    intro p hp
    rw [TL.spl_nil] at hp
    have : p = acc := by simpa using hp
    subst this
    exact ⟨by simp, fun c hc => .inl hc⟩
  | cons a l ih =>
    intro p hp
    cases k with
    | succ k =>
      have hp' : p ∈ TL.spl S k acc l := hp
      obtain ⟨h1, h2⟩ := ih k acc p hp'
      exact ⟨by rw [List.length_cons]; omega, fun c hc => (h2 c hc).imp id (List.mem_cons_of_mem _)⟩
    | zero =>
      cases hh : TL.pre S (a :: l) with
      | true =>
        rw [TL.spl_hit hh] at hp
        rcases List.mem_cons.mp hp with rfl | hp
        · exact ⟨by omega, fun c hc => .inl hc⟩
        · obtain ⟨h1, h2⟩ := ih _ [] p hp
          exact ⟨by rw [List.length_nil] at h1; rw [List.length_cons]; omega, fun c hc => .inr (List.mem_cons_of_mem _ ((h2 c hc).resolve_left (by simp)))⟩
      | false =>
        rw [TL.spl_miss hh] at hp
        obtain ⟨h1, h2⟩ := ih 0 (acc ++ [a]) p hp
        refine ⟨by rw [List.length_append, List.length_singleton] at h1; rw [List.length_cons]; omega, fun c hc => ?_⟩
        rcases h2 c hc with h | h
        · rcases List.mem_append.mp h with h | h
          · exact .inl h
          · exact .inr (by have : c = a := by simpa using h
                           rw [this]; exact List.mem_cons_self)
        · exact .inr (List.mem_cons_of_mem _ h)
theorem split_pt {t p : Str} (h : p ∈ Txt.split t ".") : p.length ≤ t.length ∧ ∀ c ∈ tl p, c ∈ tl t := by
  have e := TL.split_spl t "." (by decide +kernel) (TL.kind_ok (by decide +kernel))
  have hm : tl p ∈ TL.spl (tl ".") 0 [] (tl t) := by
    rw [← e]
    exact List.mem_map_of_mem h
  obtain ⟨h1, h2⟩ := spl_parts _ _ _ _ _ hm
  rw [tl_len, tl_len, List.length_nil, Nat.zero_add] at h1
  exact ⟨h1, fun c hc => (h2 c hc).resolve_left (by simp)⟩
def sp_is_pointed (K : PySem.W.Frag) : Sp := fun vs H Q _ => ∃ (v : V), vs = [v] ∧ ((∃ t : Str, v = .str t ∧ t.length ≤ 40000 ∧ RetV (.bl (isPointed t)) H Q) ∨ ∃ n : String, TyX K H v (.type n) ∧ kitB n "str" = some false ∧ Q (.bl false) H)
theorem spl_count (S : List Nat) : ∀ (k : Nat) (acc l : List Nat), (TL.spl S k acc l).length ≤ l.length + 1 := by
  intro k acc l
  induction l generalizing k acc with
  | nil => rw [TL.spl_nil]; simp
  | cons a l ih =>
    cases k with
    | succ k => exact Nat.le_trans (ih k acc) (by rw [List.length_cons]; omega)
    | zero =>
      cases hh : TL.pre S (a :: l) with
      | true =>
        rw [TL.spl_hit hh, List.length_cons, List.length_cons]
        exact Nat.succ_le_succ (ih _ [])
      | false =>
        rw [TL.spl_miss hh, List.length_cons]
        exact Nat.le_trans (ih 0 _) (by omega)
theorem split_count {t : Str} : (Txt.split t ".").length ≤ t.length + 1 := by
  have e := TL.split_spl t "." (by decide +kernel) (TL.kind_ok (by decide +kernel))
  have h := spl_count (tl ".") 0 [] (tl t)
  rw [← e, List.length_map, tl_len] at h
  exact h
theorem ok_is_pointed (T : Txt K mg Z) : FnOk P w K mg base CX0 2 Z.f_is_pointed Z.fd_is_pointed ["thing"] (sp_is_pointed K) := by
  have G_is_name := ok_is_name (P := P) (w := w) (base := base) T
  refine T.F_is_pointed.ok sc_is_pointed (fun vs H Q E h => ?_) (fun cdv AA outer s H vs Q E hr h => ?_)
  · obtain ⟨v, rfl, _⟩ := h
    rfl
  · obtain ⟨v, rfl, h⟩ := h
    refine ⟨_, (pss_cons (ps_if (PW.pt (pw_or (pt_not (pt_val (pe_callB call_isi (by rfl) T.n_isinstance (by decide +kernel) (pa_cons (pv 0) (pa_cons (pe_bltn (v := .ty "str") (by rfl) T.n_str (by decide +kernel) rfl) pa_nil))))) (pw_or1 (pt_cmpR op_gt (pe_callB call_len_str (by rfl) T.n_len (by decide +kernel) (pa_cons (pv 0) pa_nil)) (pe_gcst rfl T.c_MOST_SIGNS) (nomark _))))) (pss_one (ps_ret pe_bl)) pss_nil)
      (pss_one (ps_ret (pe_callB (cr_all rfl) (by rfl) T.n_all (by decide +kernel) (pa_cons (pe_lc (own := [("part", 1)]) (g := (gName 1)) (tt := tYes) (te := (tCall (sp_is_name K) [] E0 (tCons (tVar 1) tNil))) rfl sc_is_pointed.nd (pi_list (pe_split (pv 0) pe_str)) (blkOk_by (own := [("part", 1)]) (N := N_is_pointed) (sc := defScope s_is_pointed) (by decide +kernel)) (fun _ _ _ _ _ => (pg_name (i := 1) sc_is_pointed.nd rfl (Or.inl rfl))) (fun _ _ _ _ _ => pts_nil) (fun _ _ _ _ _ => (pe_call G_is_name (hr.mono (by decide)) rfl T.g_is_name T.F_is_name.kp T.b_is_name .nil pass0 (pa_cons (pv 1) pa_nil)))) pa_nil))))), ?_⟩
    rcases h with ⟨t, rfl, hl, k⟩ | ⟨n, ty, kb, k⟩
    · unfold isPointed at k
      walk_at "ss"
      refine isi (ty_str t) kb_ss ?_
      walk_at "ss"
      refine ⟨Evl.sz_of (by omega), ?_⟩
      walk_at "ss"
      refine if_cs (fun h80 => ?_) (fun h80 => ?_)
      · have : ¬ (t.length : Int) ≤ 80 := by have := of_decide_eq_true h80; omega
        rw [decide_eq_false this] at k
        walk_at "ss"
        exact k _ (Ex.refl _)
      have : (t.length : Int) ≤ 80 := by have := of_decide_eq_false h80; omega
      rw [decide_eq_true this, Bool.true_and] at k
      walk_at "ss"
      refine ⟨⟨_, rfl⟩, ?_⟩
      walk_at "ss"
      refine ⟨Evl.sz_of (by omega), fun q hq => ?_⟩
      have f1 : Ex H (upd H q (.lst ((Txt.split t ".").map V.str))) := Ex.new hq
      generalize hH1 : upd H q (.lst ((Txt.split t ".").map V.str)) = H1 at f1
      have g1 : H1 q = some (.lst ((Txt.split t ".").map V.str)) := by rw [← hH1, upd_same]
      walk_at "ss"
      refine ⟨⟨_, SqL.of g1⟩, lcLv (fun v => match v with | .str p => some (.bl (isName p)) | _ => none) (SqL.of g1) (by have := split_count (t := t); rw [List.length_map]; omega) (fun v hv => ?_) ?_⟩
      · obtain ⟨p, hp, rfl⟩ := List.mem_map.mp hv
        have hpl := (split_pt hp).1
        intro H2 e2 R hR
        walk_at "ss"
        refine ⟨_, rfl, .inl ⟨_, rfl, by omega, fun H3 e3 => ?_⟩⟩
        exact hR _ e3
      have em : ((Txt.split t ".").map V.str).filterMap (fun v => match v with | .str p => some (V.bl (isName p)) | _ => none) = ((Txt.split t ".").map isName).map V.bl := by
        rw [List.filterMap_map, List.map_map]
        exact fm_some (F := fun p => V.bl (isName p)) _
      rw [em]
      intro p2 H2 hp2 e2 g2
      walk_at "ss"
      refine ⟨p2, (Txt.split t ".").map isName, rfl, SqL.of g2, ?_⟩
      have ea : ((Txt.split t ".").map isName).all id = (Txt.split t ".").all isName := by rw [List.all_map]; rfl
      rw [ea]
      exact k _ (f1.trans e2)
    · walk_at "ss"
      refine isi ty kb ?_
      walk_at "ss"
      exact k

open TL (tl)
theorem words_are : Txt.split "node in out before when hold like same call true false mod beat desk" " " = ownW := by decide +kernel
def sp_words_l : Sp := fun vs H Q _ => vs = [] ∧ RetL ownV H Q
theorem ok_words_l (T : Txt K mg Z) : FnOk P w K mg base CX0 1 Z.f_words_l Z.fd_words_l [] sp_words_l := by
  refine T.F_words_l.ok sc_words_l (fun vs H Q E h => ?_) (fun cdv AA outer s H vs Q E hr h => ?_)
  · obtain ⟨rfl, _⟩ := h
    rfl
  · obtain ⟨rfl, k⟩ := h
    refine ⟨_, (pss_one (ps_ret (pe_split pe_str pe_str))), ?_⟩
    walk_at "ss"
    refine ⟨⟨_, rfl⟩, ?_⟩
    walk_at "ss"
    refine ⟨by decide +kernel, fun q hq => ?_⟩
    rw [words_are]
    exact k q _ hq (Ex.new hq) upd_same
/-- one sign beside another -/
theorem lt_one {c d : Nat} : decide (([c] : List Nat) < [d]) = decide (c < d) := by
  by_cases h : c < d
  · rw [decide_eq_true h, decide_eq_true]
    exact List.Lex.rel h
  · rw [decide_eq_false h, decide_eq_false]
    intro q
    cases q with
    | rel r => exact h r
    | cons r => cases r
def sp_name_l (K : PySem.W.Frag) : Sp := fun vs H Q _ => ∃ (v : V), vs = [v] ∧ ((∃ t : Str, v = .str t ∧ t.length ≤ 50000 ∧ OkT t ∧ RetV (.bl (isName t)) H Q) ∨ ∃ n : String, TyX K H v (.type n) ∧ kitB n "str" = some false ∧ Q (.bl false) H)
theorem eqL_nil {l : List V} : eqL l [] = l.isEmpty := by cases l <;> rfl
theorem ok_name_l (T : Txt K mg Z) : FnOk P w K mg base CX0 2 Z.f_name_l Z.fd_name_l ["_law_thing"] (sp_name_l K) := by
  have G_words_l := ok_words_l (P := P) (w := w) (base := base) T
  refine T.F_name_l.ok sc_name_l (fun vs H Q E h => ?_) (fun cdv AA outer s H vs Q E hr h => ?_)
  · obtain ⟨v, rfl, _⟩ := h
    rfl
  · obtain ⟨v, rfl, h⟩ := h
    refine ⟨_, (pss_cons (ps_if (PW.pt (pw_or (pt_not (pt_val (pe_callB call_isi (by rfl) T.n_isinstance (by decide +kernel) (pa_cons (pv 0) (pa_cons (pe_bltn (v := .ty "str") (by rfl) T.n_str (by decide +kernel) rfl) pa_nil))))) (pw_or (pt_cmpR op_in_seq (pv 0) (pe_call0 G_words_l (hr.mono (by decide)) rfl T.g_words_l T.F_words_l.kp T.b_words_l .nil pass0) (by rfl)) (pw_or1 (pt_not (pt_chain op_le op_le pe_int (pe_callB call_len_str (by rfl) T.n_len (by decide +kernel) (pa_cons (pv 0) pa_nil)) pe_int)))))) (pss_one (ps_ret pe_bl)) pss_nil)
      (pss_one (ps_ret (pe_cmpR (op_eqD hr.units) (pe_lc (own := [("_law_sign", 1)]) (g := (gName 1)) (tt := (tNot (tTest (tChain (fun x y H Q => ∃ i j, x = .str i ∧ y = .str j ∧ Q (.bl (!decide (j.cps.toList < i.cps.toList))) H) (fun x y H Q => ∃ i j, x = .str i ∧ y = .str j ∧ Q (.bl (!decide (j.cps.toList < i.cps.toList))) H) (tC (.str "a")) (tVar 1) (tC (.str "z")))))) (te := (tVar 1)) rfl sc_name_l.nd (pi_str (pv 0)) (blkOk_by (own := [("_law_sign", 1)]) (N := N_name_l) (sc := defScope s_name_l) (by decide +kernel)) (fun _ _ _ _ _ => (pg_name (i := 1) sc_name_l.nd rfl (Or.inl rfl))) (fun _ _ _ _ _ => (pts_one (pt_not (pt_chain op_le_str op_le_str pe_str (pv 1) pe_str)))) (fun _ _ _ _ _ => (pv 1))) (pe_lst pa_nil) (nomark _))))), ?_⟩
    rcases h with ⟨t, rfl, hl, hok, k⟩ | ⟨n, ty, kb, k⟩
    · unfold isName at k
      walk_at "ss"
      refine isi (ty_str t) kb_ss ?_
      walk_at "ss"
      refine ⟨rfl, fun p1 H1 hp1 e1 g1 => ?_⟩
      refine c_in (.inl (SqL.of g1)) rfl own_flat ?_
      refine ⟨_, rfl, if_cs (fun ho => ?_) (fun ho => ?_)⟩
      · rw [ho, Bool.not_true, Bool.and_false, Bool.false_and] at k
        walk_at "ss"
        exact k _ e1
      rw [ho, Bool.not_false, Bool.and_true] at k
      walk_at "ss"
      refine ⟨Evl.sz_of (by omega), ?_⟩
      walk_at "ss"
      cases hlen : (decide (1 ≤ (t.length : Int)) && decide ((t.length : Int) ≤ 8)) with
      | false =>
        rw [hlen] at k
        refine if_cs (fun h1 => ?_) (fun h1 => ?_)
        · walk_at "ss"
          rw [h1, Bool.true_and] at hlen
          rw [hlen]
          walk_at "ss"
          exact k _ e1
        · walk_at "ss"
          exact k _ e1
      | true =>
        rw [hlen, Bool.true_and] at k
        rw [Bool.and_eq_true] at hlen
        rw [hlen.1]
        walk_at "ss"
        rw [hlen.2]
        walk_at "ss"
        refine lcS (fun c => if letC c = true then none else some (.str ⟨#[c]⟩)) hl (fun c hc => ?_) ?_
        · intro H2 e2 R hR
          walk_at "ss"
          have ea : (!decide ((⟨#[c]⟩ : Str).cps.toList < (Str.ofString "a").cps.toList)) = decide (97 ≤ c) := by
            rw [show (Str.ofString "a").cps.toList = [97] from (by decide +kernel)]
            show (!decide ([c] < [97])) = _
            rw [lt_one]
            by_cases q : c < 97
            · rw [decide_eq_true q, decide_eq_false (by omega)]; rfl
            · rw [decide_eq_false q, decide_eq_true (by omega)]; rfl
          have ez : (!decide ((Str.ofString "z").cps.toList < (⟨#[c]⟩ : Str).cps.toList)) = decide (c ≤ 122) := by
            rw [show (Str.ofString "z").cps.toList = [122] from (by decide +kernel)]
            show (!decide ([122] < [c])) = _
            rw [lt_one]
            by_cases q : 122 < c
            · rw [decide_eq_true q, decide_eq_false (by omega)]; rfl
            · rw [decide_eq_false q, decide_eq_true (by omega)]; rfl
          unfold letC at hR
          rw [ea]
          by_cases q1 : 97 ≤ c
          · rw [decide_eq_true q1] at hR ⊢
            rw [Bool.true_and] at hR
            walk_at "ss"
            rw [ez]
            by_cases q2 : c ≤ 122
            · rw [decide_eq_true q2] at hR ⊢
              walk_at "ss"
              exact hR _ (Ex.refl _)
            · rw [decide_eq_false q2] at hR ⊢
              walk_at "ss"
              exact hR _ (Ex.refl _)
          · rw [decide_eq_false q1] at hR ⊢
            walk_at "ss"
            exact hR _ (Ex.refl _)
        intro p2 H2 hp2 e2 g2
        walk_at "ss"
        refine newL fun p3 H3 hp3 e3 g3 => ?_
        have hal : ((tl t).filterMap (fun c => if letC c = true then none else some (V.str ⟨#[c]⟩))).all okV = true := by
          rw [List.all_eq_true]
          intro v hv
          obtain ⟨c, hc, e⟩ := List.mem_filterMap.mp hv
          split at e
          · cases e
          · cases e
            exact okT_one (hok c hc)
        refine c_eqLs (SqL.of (e3 _ _ g2)) (SqL.of g3) hal rfl ?_
        have ef : eqL ((tl t).filterMap (fun c => if letC c = true then none else some (V.str ⟨#[c]⟩))) [] = (tl t).all letC := by
          rw [eqL_nil, Bool.eq_iff_iff, List.isEmpty_iff, List.filterMap_eq_nil_iff, List.all_eq_true]
          refine forall_congr' fun c => forall_congr' fun _ => ?_
          cases letC c <;> simp
        rw [ef]
        exact k _ ((e1.trans e2).trans e3)
    · walk_at "ss"
      refine isi ty kb ?_
      walk_at "ss"
      exact k
def sp_pointed_l (K : PySem.W.Frag) : Sp := fun vs H Q _ => ∃ (v : V), vs = [v] ∧ ((∃ t : Str, v = .str t ∧ t.length ≤ 40000 ∧ OkT t ∧ RetV (.bl (isPointed t)) H Q) ∨ ∃ n : String, TyX K H v (.type n) ∧ kitB n "str" = some false ∧ Q (.bl false) H)
theorem ok_pointed_l (T : Txt K mg Z) : FnOk P w K mg base CX0 3 Z.f_pointed_l Z.fd_pointed_l ["_law_thing"] (sp_pointed_l K) := by
  have G_name_l := ok_name_l (P := P) (w := w) (base := base) T
  refine T.F_pointed_l.ok sc_pointed_l (fun vs H Q E h => ?_) (fun cdv AA outer s H vs Q E hr h => ?_)
  · obtain ⟨v, rfl, _⟩ := h
    rfl
  · obtain ⟨v, rfl, h⟩ := h
    refine ⟨_, (pss_cons (ps_if (PW.pt (pw_or (pt_not (pt_val (pe_callB call_isi (by rfl) T.n_isinstance (by decide +kernel) (pa_cons (pv 0) (pa_cons (pe_bltn (v := .ty "str") (by rfl) T.n_str (by decide +kernel) rfl) pa_nil))))) (pw_or1 (pt_cmpR op_gt (pe_callB call_len_str (by rfl) T.n_len (by decide +kernel) (pa_cons (pv 0) pa_nil)) pe_int (nomark _))))) (pss_one (ps_ret pe_bl)) pss_nil)
      (pss_one (ps_ret (pe_cmpR (op_eqD hr.units) (pe_lc (own := [("_law_part", 1)]) (g := (gName 1)) (tt := (tNot (tB (tCall (sp_name_l K) [] E0 (tCons (tVar 1) tNil))))) (te := (tVar 1)) rfl sc_pointed_l.nd (pi_list (pe_split (pv 0) pe_str)) (blkOk_by (own := [("_law_part", 1)]) (N := N_pointed_l) (sc := defScope s_pointed_l) (by decide +kernel)) (fun _ _ _ _ _ => (pg_name (i := 1) sc_pointed_l.nd rfl (Or.inl rfl))) (fun _ _ _ _ _ => (pts_one (pt_not (pt_val (pe_call G_name_l (hr.mono (by decide)) rfl T.g_name_l T.F_name_l.kp T.b_name_l .nil pass0 (pa_cons (pv 1) pa_nil)))))) (fun _ _ _ _ _ => (pv 1))) (pe_lst pa_nil) (nomark _))))), ?_⟩
    rcases h with ⟨t, rfl, hl, hok, k⟩ | ⟨n, ty, kb, k⟩
    · unfold isPointed at k
      walk_at "ss"
      refine isi (ty_str t) kb_ss ?_
      walk_at "ss"
      refine ⟨Evl.sz_of (by omega), ?_⟩
      walk_at "ss"
      refine if_cs (fun h80 => ?_) (fun h80 => ?_)
      · have : ¬ (t.length : Int) ≤ 80 := by have := of_decide_eq_true h80; omega
        rw [decide_eq_false this] at k
        walk_at "ss"
        exact k _ (Ex.refl _)
      have : (t.length : Int) ≤ 80 := by have := of_decide_eq_false h80; omega
      rw [decide_eq_true this, Bool.true_and] at k
      walk_at "ss"
      refine ⟨⟨_, rfl⟩, ?_⟩
      walk_at "ss"
      refine ⟨Evl.sz_of (by omega), fun q hq => ?_⟩
      have f1 : Ex H (upd H q (.lst ((Txt.split t ".").map V.str))) := Ex.new hq
      generalize hH1 : upd H q (.lst ((Txt.split t ".").map V.str)) = H1 at f1
      have g1 : H1 q = some (.lst ((Txt.split t ".").map V.str)) := by rw [← hH1, upd_same]
      walk_at "ss"
      refine ⟨⟨_, SqL.of g1⟩, lcLv (fun v => match v with | .str p => if isName p = true then none else some (.str p) | _ => none) (SqL.of g1) (by have := split_count (t := t); rw [List.length_map]; omega) (fun v hv => ?_) ?_⟩
      · obtain ⟨p, hp, rfl⟩ := List.mem_map.mp hv
        have hpl := split_pt hp
        intro H2 e2 R hR
        walk_at "ss"
        refine ⟨_, rfl, .inl ⟨_, rfl, by omega, fun c hc => hok c (hpl.2 c hc), fun H3 e3 => ?_⟩⟩
        walk_at "ss"
        cases hn : isName p with
        | true =>
          dsimp only at hR
          rw [if_pos hn] at hR
          walk_at "ss"
          exact hR _ e3
        | false =>
          dsimp only at hR
          rw [if_neg (by rw [hn]; decide)] at hR
          walk_at "ss"
          exact hR _ e3
      intro p2 H2 hp2 e2 g2
      walk_at "ss"
      refine newL fun p3 H3 hp3 e3 g3 => ?_
      rw [List.filterMap_map] at g2
      have hal : ((Txt.split t ".").filterMap ((fun v => match v with | .str p => if isName p = true then none else some (V.str p) | _ => none) ∘ V.str)).all okV = true := by
        rw [List.all_eq_true]
        intro v hv
        obtain ⟨p, hp, e⟩ := List.mem_filterMap.mp hv
        have e' : (if isName p = true then none else some (V.str p)) = some v := e
        split at e'
        · cases e'
        · cases e'
          exact okT_V fun c hc => hok c ((split_pt hp).2 c hc)
      refine c_eqLs (SqL.of (e3 _ _ g2)) (SqL.of g3) hal rfl ?_
      have ef : eqL ((Txt.split t ".").filterMap ((fun v => match v with | .str p => if isName p = true then none else some (V.str p) | _ => none) ∘ V.str)) [] = (Txt.split t ".").all isName := by
        rw [eqL_nil, Bool.eq_iff_iff, List.isEmpty_iff, List.filterMap_eq_nil_iff, List.all_eq_true]
        refine forall_congr' fun p => forall_congr' fun _ => ?_
        show (if isName p = true then none else some (V.str p)) = none ↔ _
        cases isName p <;> simp
      rw [ef]
      exact k _ ((f1.trans e2).trans e3)
    · walk_at "ss"
      refine isi ty kb ?_
      walk_at "ss"
      exact k
def sp_same_l : Sp := fun vs H Q _ => ∃ (b : Bool), vs = [.bl b, .bl b] ∧ Q (.bl true) H
theorem ok_same_l (T : Txt K mg Z) : FnOk P w K mg base CX0 1 Z.f_same_l Z.fd_same_l ["_law_found", "_law_due"] sp_same_l := by
  refine T.F_same_l.ok sc_same_l (fun vs H Q E h => ?_) (fun cdv AA outer s H vs Q E hr h => ?_)
  · obtain ⟨b, rfl, _⟩ := h
    rfl
  · obtain ⟨b, rfl, k⟩ := h
    refine ⟨_, (pss_one (ps_ret (pe_and (pe_callB call_isi (by rfl) T.n_isinstance (by decide +kernel) (pa_cons (pv 0) (pa_cons (pe_bltn (v := .ty "bool") (by rfl) T.n_bool (by decide +kernel) rfl) pa_nil))) (pe_one (pe_cmpR op_eq (pv 0) (pv 1) (nomark _)))))), ?_⟩
    walk_at "ss"
    refine isi (ty_bl b) kb_bb ?_
    walk_at "ss"
    rw [decide_eq_true rfl]
    exact k

open TL (tl)
theorem let_at {d : Int} (h0 : 0 ≤ d) (h1 : d < 26) : ∃ c, atI (tl "abcdefghijklmnopqrstuvwxyz") d = some c ∧ c < 1114112 := by
  obtain ⟨j, rfl⟩ := Int.eq_ofNat_of_zero_le h0
  have hj : j < 26 := by omega
  have e : tl "abcdefghijklmnopqrstuvwxyz" = (List.range 26).map (· + 97) := by decide +kernel
  refine ⟨j + 97, atI_nat ?_, by omega⟩
  rw [e, List.getElem?_map, List.getElem?_range hj]
  rfl
theorem okT_sign {c : Nat} (h : c < 1114112) : OkT ⟨#[c]⟩ := fun d hd => by
  have : d = c := by simpa [tl] using hd
  omega
def sp_text_l : Sp := fun vs H Q _ => ∃ (b : Addr), vs = [.ref b] ∧ BoxAt H b ∧ ∀ u H2, u.length ≤ 100 → OkT u → ExB b H H2 → BoxAt H2 b → Q (.str u) H2
theorem ok_empty : OkT "" := OkT.lit (by decide +kernel)
theorem len_empty : ("" : Str).length = 0 := by decide +kernel
theorem ok_text_l (T : Txt K mg Z) : FnOk P w K mg base CX0 2 Z.f_text_l Z.fd_text_l ["_law_box_here"] sp_text_l := by
  have G_take_l := ok_take_l (P := P) (w := w) (base := base) T
  refine T.F_text_l.ok sc_text_l (fun vs H Q E h => ?_) (fun cdv AA outer s H vs Q E hr h => ?_)
  · obtain ⟨b, rfl, _⟩ := h
    rfl
  · obtain ⟨b, rfl, hB, k⟩ := h
    refine ⟨_, (pss_cons (ps_set (i := 1) sc_text_l.nd rfl (Or.inl rfl) (pe_join pe_str (pe_lc (own := [("_law_k", 2)]) (g := (gName 2)) (tt := tYes) (te := (tOp rIxS (tC (.str "abcdefghijklmnopqrstuvwxyz")) (tCall sp_take_l [] E0 (tCons (tVar 0) (tCons (tC (.int 26)) tNil))))) rfl sc_text_l.nd (pi_range1 (by rfl) T.n_range (pa_cons (pe_call G_take_l (hr.mono (by decide)) rfl T.g_take_l T.F_take_l.kp T.b_take_l .nil pass0 (pa_cons (pv 0) (pa_cons pe_int pa_nil))) pa_nil)) (blkOk_by (own := [("_law_k", 2)]) (N := N_text_l) (sc := defScope s_text_l) (by decide +kernel)) (fun _ _ _ _ _ => (pg_name (i := 2) sc_text_l.nd rfl (Or.inl rfl))) (fun _ _ _ _ _ => pts_nil) (fun _ _ _ _ _ => (pe_ix ix_str pe_str (pe_call G_take_l (hr.mono (by decide)) rfl T.g_take_l T.F_take_l.kp T.b_take_l .nil pass0 (pa_cons (pv 0) (pa_cons pe_int pa_nil))) (fun _ _ => rfl))))))
      (pss_cons (ps_if (pt_cmpR op_eq (pe_call G_take_l (hr.mono (by decide)) rfl T.g_take_l T.F_take_l.kp T.b_take_l .nil pass0 (pa_cons (pv 0) (pa_cons pe_int pa_nil))) pe_int (nomark _)) (pss_one (ps_ret (pv 1))) pss_nil)
      (pss_cons (ps_set (i := 3) sc_text_l.nd rfl (Or.inl rfl) (pe_call G_take_l (hr.mono (by decide)) rfl T.g_take_l T.F_take_l.kp T.b_take_l .nil pass0 (pa_cons (pv 0) (pa_cons (pe_op op_add (pe_callB call_len_str (by rfl) T.n_len (by decide +kernel) (pa_cons (pv 1) pa_nil)) pe_int) pa_nil))))
      (pss_one (ps_ret (pe_op op_add_str (pe_op op_add_str (pe_slice sl_str (pv 1) po_none (po_some (pv 3))) (pe_ix ix_str pe_str (pe_call G_take_l (hr.mono (by decide)) rfl T.g_take_l T.F_take_l.kp T.b_take_l .nil pass0 (pa_cons (pv 0) (pa_cons pe_int pa_nil))) (fun _ _ => rfl))) (pe_slice sl_str (pv 1) (po_some (pv 3)) po_none))))))), ?_⟩
    walk_at "ss"
    refine ⟨⟨_, rfl⟩, ?_⟩
    walk_at "ss"
    refine ⟨b, 10, rfl, hB, by decide, by decide, fun d H1 d0 d1 x1 hB1 => ?_⟩
    walk_at "ss"
    refine ⟨by omega, by omega, ?_⟩
    refine lcRB (b := b) (fun y => ∃ s : Str, y = .str s ∧ OkT s ∧ s.length ≤ 1) (by omega) hB1 (fun i hi H2 hB2 x2 R N hR => ?_) (fun ys p H2 hl hg hp x2 hB2 g2 => ?_)
    · walk_at "ss"
      refine ⟨b, 26, rfl, hB2, by decide, by decide, fun d2 H3 d20 d21 x3 hB3 => ?_⟩
      obtain ⟨c, hc, hc1⟩ := let_at d20 d21
      refine c_ixS (by decide +kernel) hc ?_
      exact hR _ _ ⟨_, rfl, okT_sign hc1, Nat.le_refl _⟩ hB3 x3
    · obtain ⟨ss, rfl, hss⟩ := strs_of hg
      rw [List.length_map] at hl
      have hj := join_ok (sep := "") ok_empty (m := 1) hss
      have hsum := sum_len fun s hs => (hss s hs).2
      rw [len_empty] at hj
      walk_at "ss"
      refine ⟨_, _, ss, rfl, rfl, .inl (SqL.of g2), by rw [len_empty]; omega, ?_⟩
      generalize Txt.join "" ss = u at hj
      have ul : u.length ≤ 9 := by omega
      walk_at "ss"
      refine ⟨b, 2, rfl, hB2, by decide, by decide, fun d2 H3 _ _ x3 hB3 => ?_⟩
      walk_at "ss"
      have x13 := (x1.trans x2).trans x3
      refine if_cs (fun _ => ?_) (fun _ => ?_)
      · walk_at "ss"
        exact k u H3 (by omega) hj.1 x13 hB3
      walk_at "ss"
      refine ⟨Evl.sz_of (by omega), ?_⟩
      walk_at "ss"
      refine ⟨b, _, rfl, hB3, by omega, by omega, fun at_ H4 _ _ x4 hB4 => ?_⟩
      walk_at "ss"
      refine c_slS (by omega) ?_
      walk_at "ss"
      refine ⟨b, 8, rfl, hB4, by decide, by decide, fun d5 H5 d50 d51 x5 hB5 => ?_⟩
      obtain ⟨c, hc, hc1⟩ : ∃ c, atI (tl "A0 _.\n-z") d5 = some c ∧ c < 1114112 := by
        obtain ⟨j, rfl⟩ := Int.eq_ofNat_of_zero_le d50
        have hj : j < 8 := by omega
        have key : ∀ j : Nat, j < 8 → ∃ c, (tl "A0 _.\n-z")[j]? = some c ∧ c < 1114112 := by
          intro j hj
          have e : tl "A0 _.\n-z" = [65, 48, 32, 95, 46, 10, 45, 122] := by decide +kernel
          rw [e]
          match j, hj with
          | 0, _ => exact ⟨_, rfl, by decide⟩
          | 1, _ => exact ⟨_, rfl, by decide⟩
          | 2, _ => exact ⟨_, rfl, by decide⟩
          | 3, _ => exact ⟨_, rfl, by decide⟩
          | 4, _ => exact ⟨_, rfl, by decide⟩
          | 5, _ => exact ⟨_, rfl, by decide⟩
          | 6, _ => exact ⟨_, rfl, by decide⟩
          | 7, _ => exact ⟨_, rfl, by decide⟩
        obtain ⟨c, h1, h2⟩ := key j hj
        exact ⟨c, atI_nat h1, h2⟩
      refine c_ixS (by decide +kernel) hc ?_
      walk_at "ss"
      have cl : ∀ lo hi, (cutS u lo hi).length ≤ 9 := fun lo hi => Nat.le_trans (cutS_length _ _ _) ul
      have c1 := cl none (some at_)
      have c2 := cl (some at_) none
      have l1 : (⟨#[c]⟩ : Str).length = 1 := rfl
      refine ⟨Evl.sz_of (by omega), ?_⟩
      walk_at "ss"
      refine c_slS (by omega) ?_
      walk_at "ss"
      refine ⟨Evl.sz_of (by rw [add_len]; omega), ?_⟩
      walk_at "ss"
      refine k _ H5 (by rw [add_len, add_len]; omega) (((hj.1.cut _ _).app (okT_sign hc1)).app (hj.1.cut _ _)) ((x13.trans x4).trans x5) hB5
def sp_word_l : Sp := fun vs H Q _ => ∃ (b : Addr), vs = [.ref b] ∧ BoxAt H b ∧ ∀ u H2, u.length ≤ 100 → OkT u → ExB b H H2 → BoxAt H2 b → Q (.str u) H2
theorem own_facts : ∀ w ∈ ownW, w.length ≤ 6 ∧ (tl w).all (fun c => decide (c < 1114112)) = true ∧ (Txt.upper w).length ≤ 10 ∧ (tl (Txt.upper w)).all (fun c => decide (c < 1114112)) = true := by decide +kernel
theorem ok_word_l (T : Txt K mg Z) : FnOk P w K mg base CX0 2 Z.f_word_l Z.fd_word_l ["_law_box_here"] sp_word_l := by
  have G_take_l := ok_take_l (P := P) (w := w) (base := base) T
  have G_words_l := ok_words_l (P := P) (w := w) (base := base) T
  refine T.F_word_l.ok sc_word_l (fun vs H Q E h => ?_) (fun cdv AA outer s H vs Q E hr h => ?_)
  · obtain ⟨b, rfl, _⟩ := h
    rfl
  · obtain ⟨b, rfl, hB, k⟩ := h
    refine ⟨_, (pss_cons (ps_set (i := 1) sc_word_l.nd rfl (Or.inl rfl) (pe_call0 G_words_l (hr.mono (by decide)) rfl T.g_words_l T.F_words_l.kp T.b_words_l .nil pass0))
      (pss_cons (ps_set (i := 2) sc_word_l.nd rfl (Or.inl rfl) (pe_ix ix_list (pv 1) (pe_call G_take_l (hr.mono (by decide)) rfl T.g_take_l T.F_take_l.kp T.b_take_l .nil pass0 (pa_cons (pv 0) (pa_cons (pe_callB call_len_seq (by rfl) T.n_len (by decide +kernel) (pa_cons (pv 1) pa_nil)) pa_nil))) (fun _ _ => rfl)))
      (pss_one (ps_ret (pe_ix ix_list (pe_lst (pa_cons (pv 2) (pa_cons (pe_op op_add_str (pv 2) pe_str) (pa_cons (pe_slice sl_str (pv 2) (po_some pe_int) po_none) (pa_cons (pe_slice sl_str (pv 2) po_none (po_some (pe_un un_neg pe_int))) (pa_cons (pe_m0 PySem.F.slot_str_upper PySem.F.type_str_upper mt_upper (pv 2)) (pa_cons (pe_op op_add_str pe_str (pv 2)) (pa_cons (pe_op op_add_str pe_str (pv 2)) pa_nil)))))))) (pe_call G_take_l (hr.mono (by decide)) rfl T.g_take_l T.F_take_l.kp T.b_take_l .nil pass0 (pa_cons (pv 0) (pa_cons pe_int pa_nil))) (fun _ _ => rfl)))))), ?_⟩
    walk_at "ss"
    refine ⟨rfl, fun p1 H1 hp1 e1 g1 => ?_⟩
    walk_at "ss"
    refine ⟨_, _, rfl, .inl (SqL.of g1), ?_⟩
    walk_at "ss"
    refine ⟨b, 14, rfl, hB.ex e1, by decide, by decide, fun d H2 d0 d1 x2 hB2 => ?_⟩
    walk_at "ss"
    have n1b : p1 ≠ b := box_ne (hB.ex e1) g1 (by intro x y z q; cases q)
    obtain ⟨v, ha, hv⟩ := at_in (xs := ownV) d0 d1
    obtain ⟨w, hw, rfl⟩ := List.mem_map.mp hv
    obtain ⟨w1, w2, w3, w4⟩ := own_facts w hw
    refine c_ixL (SqL.of (x2 _ _ n1b g1)) ha ?_
    walk_at "ss"
    refine ⟨Evl.sz_of (by have : ("s" : Str).length = 1 := (by decide +kernel); omega), ?_⟩
    walk_at "ss"
    refine c_slS (by omega) ?_
    walk_at "ss"
    refine c_slS (by omega) ?_
    walk_at "ss"
    refine ⟨⟨_, rfl⟩, ?_⟩
    walk_at "ss"
    refine ⟨by omega, ?_⟩
    walk_at "ss"
    refine ⟨Evl.sz_of (by have : (" " : Str).length = 1 := (by decide +kernel); omega), ?_⟩
    walk_at "ss"
    refine ⟨Evl.sz_of (by have : ("x" : Str).length = 1 := (by decide +kernel); omega), ?_⟩
    walk_at "ss"
    refine newL fun p3 H3 hp3 e3 g3 => ?_
    walk_at "ss"
    refine ⟨b, 7, rfl, hB2.ex e3, by decide, by decide, fun d2 H4 d20 d21 x4 hB4 => ?_⟩
    have n3b : p3 ≠ b := box_ne (hB2.ex e3) g3 (by intro x y z q; cases q)
    obtain ⟨v, ha, hv⟩ := at_in (xs := [.str w, .str (w ++ "s"), .str (cutS w (some 1) none), .str (cutS w none (some (-1))), .str (Txt.upper w), .str (" " ++ w), .str ("x" ++ w)]) d20 d21
    refine c_ixL (SqL.of (x4 _ _ n3b g3)) ha ?_
    obtain ⟨u, rfl, ul, uo⟩ : ∃ u : Str, v = .str u ∧ u.length ≤ 100 ∧ OkT u := by
      have hw := OkT.lit w2
      have c1 := cutS_length w (some 1) none
      have c2 := cutS_length w none (some (-1))
      simp only [List.mem_cons, List.not_mem_nil, or_false] at hv
      rcases hv with rfl | rfl | rfl | rfl | rfl | rfl | rfl
      · exact ⟨_, rfl, by omega, hw⟩
      · exact ⟨_, rfl, by rw [add_len]; have : ("s" : Str).length = 1 := (by decide +kernel); omega, hw.app (OkT.lit (by decide +kernel))⟩
      · exact ⟨_, rfl, by omega, hw.cut _ _⟩
      · exact ⟨_, rfl, by omega, hw.cut _ _⟩
      · exact ⟨_, rfl, by omega, OkT.lit w4⟩
      · exact ⟨_, rfl, by rw [add_len]; have : (" " : Str).length = 1 := (by decide +kernel); omega, (OkT.lit (by decide +kernel)).app hw⟩
      · exact ⟨_, rfl, by rw [add_len]; have : ("x" : Str).length = 1 := (by decide +kernel); omega, (OkT.lit (by decide +kernel)).app hw⟩
    walk_at "ss"
    exact k u H4 ul uo ((((ExB.of e1).trans x2).ex e3).trans x4) hB4

open TL (tl)
def sp_points_l : Sp := fun vs H Q _ => ∃ (b : Addr), vs = [.ref b] ∧ BoxAt H b ∧ ∀ u H2, u.length ≤ 2000 → OkT u → ExB b H H2 → BoxAt H2 b → Q (.str u) H2
theorem ok_dot : OkT "." := OkT.lit (by decide +kernel)
theorem len_dot : ("." : Str).length = 1 := by decide +kernel
theorem ok_points_l (T : Txt K mg Z) : FnOk P w K mg base CX0 3 Z.f_points_l Z.fd_points_l ["_law_box_here"] sp_points_l := by
  have G_take_l := ok_take_l (P := P) (w := w) (base := base) T
  have G_word_l := ok_word_l (P := P) (w := w) (base := base) T
  refine T.F_points_l.ok sc_points_l (fun vs H Q E h => ?_) (fun cdv AA outer s H vs Q E hr h => ?_)
  · obtain ⟨b, rfl, _⟩ := h
    rfl
  · obtain ⟨b, rfl, hB, k⟩ := h
    refine ⟨_, (pss_cons (ps_set (i := 1) sc_points_l.nd rfl (Or.inl rfl) (pe_lst pa_nil))
      (pss_cons (ps_for PassesOwn.never rfl (pi_range1 (by rfl) T.n_range (pa_cons (pe_op op_add pe_int (pe_call G_take_l (hr.mono (by decide)) rfl T.g_take_l T.F_take_l.kp T.b_take_l .nil pass0 (pa_cons (pv 0) (pa_cons pe_int pa_nil)))) pa_nil)) (pg_name (i := 2) sc_points_l.nd rfl (Or.inl rfl)) (pss_cons (ps_set (i := 3) sc_points_l.nd rfl (Or.inl rfl) (pe_join pe_str (pe_lc (own := [("_law_j", 4)]) (g := (gName 4)) (tt := tYes) (te := (tOp rIxS (tC (.str "abcdefghijklmnopqrstuvwxyz")) (tCall sp_take_l [] E0 (tCons (tVar 0) (tCons (tC (.int 26)) tNil))))) rfl sc_points_l.nd (pi_range1 (by rfl) T.n_range (pa_cons (pe_op op_add pe_int (pe_call G_take_l (hr.mono (by decide)) rfl T.g_take_l T.F_take_l.kp T.b_take_l .nil pass0 (pa_cons (pv 0) (pa_cons pe_int pa_nil)))) pa_nil)) (blkOk_by (own := [("_law_j", 4)]) (N := N_points_l) (sc := defScope s_points_l) (by decide +kernel)) (fun _ _ _ _ _ => (pg_name (i := 4) sc_points_l.nd rfl (Or.inl rfl))) (fun _ _ _ _ _ => pts_nil) (fun _ _ _ _ _ => (pe_ix ix_str pe_str (pe_call G_take_l (hr.mono (by decide)) rfl T.g_take_l T.F_take_l.kp T.b_take_l .nil pass0 (pa_cons (pv 0) (pa_cons pe_int pa_nil))) (fun _ _ => rfl))))))
      (pss_one (ps_expr (pe_bm PySem.F.plainAttrs_list PySem.F.slot_list_append PySem.F.type_list_append mt_append (pv 1) (pa_cons (pe_ix ix_list (pe_lst (pa_cons (pv 3) (pa_cons (pv 3) (pa_cons (pv 3) (pa_cons (pv 3) (pa_cons pe_str (pa_cons (pe_call G_word_l (hr.mono (by decide)) rfl T.g_word_l T.F_word_l.kp T.b_word_l .nil pass0 (pa_cons (pv 0) pa_nil)) pa_nil))))))) (pe_call G_take_l (hr.mono (by decide)) rfl T.g_take_l T.F_take_l.kp T.b_take_l .nil pass0 (pa_cons (pv 0) (pa_cons pe_int pa_nil))) (fun _ _ => rfl)) pa_nil))))))
      (pss_one (ps_ret (pe_op op_add_str (pe_join pe_str (pv 1)) (pe_ix ix_list (pe_lst (pa_cons pe_str (pa_cons pe_str (pa_cons pe_str (pa_cons pe_str pa_nil))))) (pe_call G_take_l (hr.mono (by decide)) rfl T.g_take_l T.F_take_l.kp T.b_take_l .nil pass0 (pa_cons (pv 0) (pa_cons pe_int pa_nil))) (fun _ _ => rfl))))))), ?_⟩
    walk_at "ss"
    refine newL fun pp H1 hpp e1 g1 => ?_
    walk_at "ss"
    refine ⟨b, 10, rfl, hB.ex e1, by decide, by decide, fun d H2 d0 d1 x2 hB2 => ?_⟩
    walk_at "ss"
    have npb : pp ≠ b := box_ne (hB.ex e1) g1 (by intro x y z q; cases q)
    refine ⟨by omega, by omega, ?_⟩
    refine forR (fun i σ' G => (∃ v2 v3 v4, σ' = [some (.ref b), some (.ref pp), v2, v3, v4]) ∧ BoxAt G b ∧ ExB b H G ∧ ∃ ss : List Str, ss.length ≤ i ∧ G pp = some (.lst (ss.map V.str)) ∧ ∀ s ∈ ss, OkT s ∧ s.length ≤ 100)
      ⟨⟨_, _, _, rfl⟩, hB2, (ExB.of e1).trans x2, [], Nat.le_refl _, x2 _ _ npb g1, (fun _ h => by cases h)⟩ ?_ ?_
    · rintro i σ' G hi ⟨⟨v2, v3, v4, rfl⟩, hBG, xG, ss, hsl, gss, hss⟩
      walk_at "ss"
      refine ⟨⟨_, rfl⟩, ?_⟩
      walk_at "ss"
      refine ⟨b, 8, rfl, hBG, by decide, by decide, fun d2 G1 d20 d21 y1 hB3 => ?_⟩
      walk_at "ss"
      refine ⟨by omega, by omega, ?_⟩
      refine lcRB (b := b) (fun y => ∃ s : Str, y = .str s ∧ OkT s ∧ s.length ≤ 1) (by omega) hB3 (fun j hj H2 hB2 x2 R N hR => ?_) (fun ys p G2 hl hg hp y2 hB4 g2 => ?_)
      · walk_at "ss"
        refine ⟨b, 26, rfl, hB2, by decide, by decide, fun d2 H3 d20 d21 x3 hB3 => ?_⟩
        obtain ⟨c, hc, hc1⟩ := let_at d20 d21
        refine c_ixS (by decide +kernel) hc ?_
        exact hR _ _ ⟨_, rfl, okT_sign hc1, Nat.le_refl _⟩ hB3 x3
      · obtain ⟨zs, rfl, hzs⟩ := strs_of hg
        rw [List.length_map] at hl
        have hj := join_ok (sep := "") ok_empty (m := 1) hzs
        have hsum := sum_len fun s hs => (hzs s hs).2
        rw [len_empty] at hj
        walk_at "ss"
        refine ⟨_, _, zs, rfl, rfl, .inl (SqL.of g2), by rw [len_empty]; omega, ?_⟩
        generalize Txt.join "" zs = u at hj
        have ul : u.length ≤ 10 := by omega
        have gp2 := y2 _ _ npb (y1 _ _ npb gss)
        walk_at "ss"
        refine ⟨.inl ⟨rfl, _, SqL.of gp2⟩, ?_⟩
        walk_at "ss"
        refine ⟨b, rfl, hB4, fun wd G3 wl wo y3 hB5 => ?_⟩
        walk_at "ss"
        refine newL fun p4 G4 hp4 f4 g4 => ?_
        walk_at "ss"
        refine ⟨b, 6, rfl, hB5.ex f4, by decide, by decide, fun d5 G5 d50 d51 y5 hB6 => ?_⟩
        walk_at "ss"
        have n4b : p4 ≠ b := box_ne (hB5.ex f4) g4 (by intro x y z q; cases q)
        obtain ⟨v, ha, hv⟩ := at_in (xs := [.str u, .str u, .str u, .str u, .str "abcdefgh", .str wd]) d50 d51
        obtain ⟨t, rfl, tl', to⟩ : ∃ t : Str, v = .str t ∧ t.length ≤ 100 ∧ OkT t := by
          simp only [List.mem_cons, List.not_mem_nil, or_false] at hv
          rcases hv with rfl | rfl | rfl | rfl | rfl | rfl
          · exact ⟨_, rfl, by omega, hj.1⟩
          · exact ⟨_, rfl, by omega, hj.1⟩
          · exact ⟨_, rfl, by omega, hj.1⟩
          · exact ⟨_, rfl, by omega, hj.1⟩
          · exact ⟨_, rfl, by decide +kernel, OkT.lit (by decide +kernel)⟩
          · exact ⟨_, rfl, wl, wo⟩
        refine c_ixL (SqL.of (y5 _ _ n4b g4)) ha ?_
        walk_at "ss"
        have gp5 := y5 _ _ npb (f4 _ _ (y3 _ _ npb gp2))
        refine ⟨pp, _, _, rfl, rfl, gp5, ?_, ?_⟩
        · rw [List.length_map]
          exact Evl.sz_lt (by omega)
        walk_at "ss"
        have xall : ExB b H G5 := (((((xG.trans y1).trans y2).trans y3).ex f4).trans y5)
        refine ⟨⟨_, _, _, rfl⟩, ?_, ?_, ss ++ [t], ?_, ?_, ?_⟩
        · obtain ⟨bx, by', bz, q1, q2⟩ := hB6
          exact ⟨bx, by', bz, q1, by rw [upd_ne npb.symm]; exact q2⟩
        · intro a' o' na' ha'
          rw [upd_ne (ne_of_none ha' hpp)]
          exact xall a' o' na' ha'
        · rw [List.length_append, List.length_singleton]; omega
        · rw [upd_same, List.map_append] <;> rfl
        · intro s hs
          rcases List.mem_append.mp hs with h | h
          · exact hss s h
          · have : s = t := by simpa using h
            rw [this]
            exact ⟨to, tl'⟩
    · rintro σ' G ⟨⟨v2, v3, v4, rfl⟩, hBG, xG, ss, hsl, gss, hss⟩
      have hn : ss.length ≤ 10 := by omega
      have hj := join_ok (sep := ".") ok_dot (m := 100) hss
      have hsum := sum_len fun s hs => (hss s hs).2
      rw [len_dot] at hj
      walk_at "ss"
      refine ⟨⟨_, rfl⟩, ?_⟩
      walk_at "ss"
      refine ⟨_, _, ss, rfl, rfl, .inl (SqL.of gss), by rw [len_dot]; omega, ?_⟩
      generalize Txt.join "." ss = u at hj
      have ul : u.length ≤ 1010 := Nat.le_trans hj.2 (by omega)
      walk_at "ss"
      refine newL fun p4 G4 hp4 f4 g4 => ?_
      walk_at "ss"
      refine ⟨b, 4, rfl, hBG.ex f4, by decide, by decide, fun d5 G5 d50 d51 y5 hB6 => ?_⟩
      walk_at "ss"
      have n4b : p4 ≠ b := box_ne (hBG.ex f4) g4 (by intro x y z q; cases q)
      obtain ⟨v, ha, hv⟩ := at_in (xs := [.str "", .str "", .str "", .str "."]) d50 d51
      obtain ⟨t, rfl, tl', to⟩ : ∃ t : Str, v = .str t ∧ t.length ≤ 1 ∧ OkT t := by
        simp only [List.mem_cons, List.not_mem_nil, or_false] at hv
        rcases hv with rfl | rfl | rfl | rfl
        all_goals exact ⟨_, rfl, by decide +kernel, OkT.lit (by decide +kernel)⟩
      refine c_ixL (SqL.of (y5 _ _ n4b g4)) ha ?_
      walk_at "ss"
      refine ⟨Evl.sz_of (by omega), ?_⟩
      exact k _ _ (by rw [add_len]; omega) (hj.1.app to) ((xG.ex f4).trans y5) hB6
/-! ### numbers about bounds -/
def Kind (K : PySem.W.Frag) (G : Hp) (z : V) : Prop := (∃ i, z = .int i) ∨ (∃ b, z = .bl b) ∨ ((∃ n, TyX K G z (.type n) ∧ kitB n "int" = some false ∧ kitB n "bool" = some false) ∧ ∀ b, z ≠ .bl b)
theorem k_non {K : PySem.W.Frag} {G : Hp} : Kind K G .non := .inr (.inr ⟨⟨_, ty_non, by decide +kernel, by decide +kernel⟩, fun b q => by cases q⟩)
theorem k_str {K : PySem.W.Frag} {G : Hp} {s : Str} : Kind K G (.str s) := .inr (.inr ⟨⟨_, ty_str s, by decide +kernel, by decide +kernel⟩, fun b q => by cases q⟩)
theorem k_lst {K : PySem.W.Frag} {G : Hp} {a : Addr} {xs : List V} (h : G a = some (.lst xs)) : Kind K G (.ref a) := .inr (.inr ⟨⟨_, ty_lst h, by decide +kernel, by decide +kernel⟩, fun b q => by cases q⟩)
theorem k_tup {K : PySem.W.Frag} {G : Hp} {a : Addr} {xs : List V} (h : G a = some (.tup xs)) : Kind K G (.ref a) := .inr (.inr ⟨⟨_, ty_tup h, by decide +kernel, by decide +kernel⟩, fun b q => by cases q⟩)
theorem k_dic {K : PySem.W.Frag} {G : Hp} {a : Addr} {xs : List (Key × V)} (h : G a = some (.dK xs)) : Kind K G (.ref a) := .inr (.inr ⟨⟨_, .base (.dK h), by decide +kernel, by decide +kernel⟩, fun b q => by cases q⟩)
theorem tyx_up {K : PySem.W.Frag} {H H2 : Hp} {x : V} {t : Value} (e : Ex H H2) (h : TyX K H x t) : TyX K H2 x t := by
  cases h with
  | base h =>
    cases h with
    | non => exact .base .non
    | bl y => exact .base (.bl y)
    | int i => exact .base (.int i)
    | str y => exact .base (.str y)
    | flt y => exact .base (.flt y)
    | lst q => exact .base (.lst (e _ _ q))
    | frz q => exact .base (.frz (e _ _ q))
    | tup q => exact .base (.tup (e _ _ q))
    | dK q => exact .base (.dK (e _ _ q))
    | dT q => exact .base (.dT (e _ _ q))
    | ins q a1 a2 a3 a4 a5 => exact .base (.ins (e _ _ q) a1 a2 a3 a4 a5)
  | byt y => exact .byt y
  | set q => exact .set (e _ _ q)
  | kList q1 q2 => exact .kList q1 q2
  | kTuple q1 q2 => exact .kTuple q1 q2
  | kDict q1 q2 => exact .kDict q1 q2
  | fTuple q => exact .fTuple (e _ _ q)
  | fDict q => exact .fDict (e _ _ q)
def sp_numbers_l : Sp := fun vs H Q _ => ∃ (b : Addr), vs = [.ref b] ∧ BoxAt H b ∧ ∀ H2, ExB b H H2 → BoxAt H2 b → Q (.bl true) H2
theorem log_ok {i : Int} (h : -1000000000 ≤ i ∧ i ≤ 1000000000) : i.natAbs.log2 < 1920 := by
  by_cases h0 : i.natAbs = 0
  · rw [h0]; decide
  · exact (Nat.log2_lt h0).mpr (Nat.lt_of_le_of_lt (show i.natAbs ≤ 2 ^ 30 by omega) (Nat.pow_lt_pow_right (by decide) (by decide)))
theorem ok_numbers_l (T : Txt K mg Z) : FnOk P w K mg base CX0 4 Z.f_numbers_l Z.fd_numbers_l ["_law_box_here"] sp_numbers_l := by
  have G_is_whole := ok_is_whole (P := P) (w := w) (base := base) T
  have G_is_within := ok_is_within (P := P) (w := w) (base := base) T
  have G_is_value := ok_is_value (P := P) (w := w) (base := base) T
  have G_take_l := ok_take_l (P := P) (w := w) (base := base) T
  have G_same_l := ok_same_l (P := P) (w := w) (base := base) T
  refine T.F_numbers_l.ok sc_numbers_l (fun vs H Q E h => ?_) (fun cdv AA outer s H vs Q E hr h => ?_)
  · obtain ⟨b, rfl, _⟩ := h
    rfl
  · obtain ⟨b, rfl, hB, k⟩ := h
    refine ⟨_, (pss_cons (ps_set (i := 1) sc_numbers_l.nd rfl (Or.inl rfl) (pe_op op_sub (pe_call G_take_l (hr.mono (by decide)) rfl T.g_take_l T.F_take_l.kp T.b_take_l .nil pass0 (pa_cons (pv 0) (pa_cons (pe_op op_pow pe_int pe_int) pa_nil))) (pe_op op_mul pe_int (pe_op op_pow pe_int pe_int))))
      (pss_cons (ps_set (i := 2) sc_numbers_l.nd rfl (Or.inl rfl) (pe_op op_sub (pe_op op_add (pv 1) (pe_call G_take_l (hr.mono (by decide)) rfl T.g_take_l T.F_take_l.kp T.b_take_l .nil pass0 (pa_cons (pv 0) (pa_cons pe_int pa_nil)))) pe_int))
      (pss_cons (ps_set (i := 3) sc_numbers_l.nd rfl (Or.inl rfl) (pe_lst (pa_cons (pe_op op_sub (pv 1) pe_int) (pa_cons (pv 1) (pa_cons (pe_op op_add (pv 1) pe_int) (pa_cons (pe_op op_sub (pv 2) pe_int) (pa_cons (pv 2) (pa_cons (pe_op op_add (pv 2) pe_int) (pa_cons (pe_op op_sub pe_int (pv 1)) (pa_cons (pe_op op_pow pe_int pe_int) (pa_cons (pe_op op_add (pe_op op_pow pe_int pe_int) pe_int) (pa_cons (pe_op op_sub pe_int (pe_op op_pow pe_int pe_int)) (pa_cons (pe_op op_sub (pe_un un_neg pe_int) (pe_op op_pow pe_int pe_int)) pa_nil)))))))))))))
      (pss_cons (ps_for PassesOwn.never rfl (pi_list (pe_op op_cat (pv 3) (pe_lst (pa_cons (pe_op op_mul (pv 1) (pe_op op_pow pe_int pe_int)) (pa_cons pe_bl (pa_cons pe_bl (pa_cons pe_non (pa_cons (pe_callTy call_str_int (by rfl) T.n_str (by decide +kernel) (pa_cons (pv 1) pa_nil)) (pa_cons (pe_lst (pa_cons (pv 1) pa_nil)) (pa_cons (pe_tup (pa_cons (pv 1) pa_nil)) (pa_cons pe_dnewK pa_nil))))))))))) (pg_name (i := 4) sc_numbers_l.nd rfl (Or.inl rfl)) (pss_cons (ps_set (i := 5) sc_numbers_l.nd rfl (Or.inl rfl) (pe_or (pe_cmpR op_isB (pv 4) pe_bl (nomark _)) (pe_one (pe_cmpR op_isB (pv 4) pe_bl (nomark _)))))
      (pss_cons (ps_set (i := 6) sc_numbers_l.nd rfl (Or.inl rfl) (pe_and (pe_callB call_isi (by rfl) T.n_isinstance (by decide +kernel) (pa_cons (pv 4) (pa_cons (pe_bltn (v := .ty "int") (by rfl) T.n_int (by decide +kernel) rfl) pa_nil))) (pe_one (pe_not (pv 5)))))
      (pss_cons (ps_if (pt_not (pt_val (pe_call G_same_l (hr.mono (by decide)) rfl T.g_same_l T.F_same_l.kp T.b_same_l .nil pass0 (pa_cons (pe_call G_is_whole (hr.mono (by decide)) rfl T.g_is_whole T.F_is_whole.kp T.b_is_whole .nil pass0 (pa_cons (pv 4) pa_nil)) (pa_cons (pv 6) pa_nil))))) (pss_one (ps_ret pe_bl)) pss_nil)
      (Evl.pss_cut (ps_if (pt_not (pt_val (pe_call G_same_l (hr.mono (by decide)) rfl T.g_same_l T.F_same_l.kp T.b_same_l .nil pass0 (pa_cons (pe_call G_is_within (hr.mono (by decide)) rfl T.g_is_within T.F_is_within.kp T.b_is_within .nil pass0 (pa_cons (pv 4) (pa_cons (pv 1) (pa_cons (pv 2) pa_nil)))) (pa_cons (pe_and (pv 6) (pe_one (pe_chain op_le op_le (pv 1) (pv 4) (pv 2)))) pa_nil))))) (pss_one (ps_ret pe_bl)) pss_nil)
      (pss_one (ps_if (pt_not (pt_val (pe_call G_same_l (hr.mono (by decide)) rfl T.g_same_l T.F_same_l.kp T.b_same_l .nil pass0 (pa_cons (pe_call G_is_value (hr.mono (by decide)) rfl T.g_is_value T.F_is_value.kp T.b_is_value .nil pass0 (pa_cons (pv 4) pa_nil)) (pa_cons (pe_or (pv 5) (pe_one (pe_and (pv 6) (pe_one (pe_chain op_le op_le (pe_op op_sub pe_int (pe_op op_pow pe_int pe_int)) (pv 4) (pe_op op_pow pe_int pe_int)))))) pa_nil))))) (pss_one (ps_ret pe_bl)) pss_nil)))))))
      (pss_one (ps_ret pe_bl)))))), ?_⟩
    walk_at "ss"
    refine c_I ⟨by decide, by decide, by decide⟩ ?_
    walk_at "ss"
    refine ⟨b, _, rfl, hB, by decide, by decide, fun d H1 d0 d1 x1 hB1 => ?_⟩
    have dhi : d < 1000000000 := d1
    walk_at "ss"
    refine c_I ⟨by decide, by decide, by decide⟩ ?_
    walk_at "ss"
    refine c_I (.inl ⟨by decide, by decide⟩) ?_
    walk_at "ss"
    refine ⟨b, 40, rfl, hB1, by decide, by decide, fun d2 H2 d20 d21 x2 hB2 => ?_⟩
    walk_at "ss"
    have hlo : d - 5 * 10 ^ Int.toNat 8 = d - 500000000 := by rfl
    generalize hlow : d - 5 * 10 ^ Int.toNat 8 = lo at hlo ⊢
    have lob : -500000000 ≤ lo ∧ lo ≤ 500000000 := by omega
    generalize lo + d2 - 3 = hi
    refine c_I ⟨by decide, by decide, by decide⟩ ?_
    walk_at "ss"
    refine c_I ⟨by decide, by decide, by decide⟩ ?_
    walk_at "ss"
    refine c_I ⟨by decide, by decide, by decide⟩ ?_
    walk_at "ss"
    refine c_I ⟨by decide, by decide, by decide⟩ ?_
    walk_at "ss"
    refine newL fun p3 H3 hp3 e3 g3 => ?_
    walk_at "ss"
    refine c_I ⟨by decide, by decide, by decide⟩ ?_
    walk_at "ss"
    refine c_I (.inl ⟨by omega, by omega⟩) ?_
    walk_at "ss"
    refine ⟨log_ok (by omega), ?_⟩
    walk_at "ss"
    refine newL fun p4 H4 hp4 e4 g4 => ?_
    walk_at "ss"
    refine newT fun p5 H5 hp5 e5 g5 => ?_
    walk_at "ss"
    intro p6 hp6
    have e6 : Ex H5 (upd H5 p6 (.dK [])) := Ex.new hp6
    generalize hH6 : upd H5 p6 (.dK []) = H6 at e6
    have g6 : H6 p6 = some (.dK []) := by rw [← hH6, upd_same]
    walk_at "ss"
    refine newL fun p7 H7 hp7 e7 g7 => ?_
    refine c_cat ((((e4.trans e5).trans e6).trans e7) _ _ g3) g7 fun p8 H8 hp8 e8 g8 => ?_
    walk_at "ss"
    refine ⟨⟨_, SqL.of g8⟩, ?_⟩
    have kinds : ∀ z ∈ ([V.int (lo - 1), .int lo, .int (lo + 1), .int (hi - 1), .int hi, .int (hi + 1), .int (0 - lo), .int (10 ^ Int.toNat 9), .int (10 ^ Int.toNat 9 + 1), .int (0 - 10 ^ Int.toNat 9), .int (-1 - 10 ^ Int.toNat 9)] ++ [V.int (lo * 10 ^ Int.toNat 20), .bl true, .bl false, .non, .str (Str.ofString (toString lo)), .ref p4, .ref p5, .ref p6]), Kind K H8 z := by
      intro z hz
      simp only [List.cons_append, List.nil_append, List.mem_cons, List.not_mem_nil, or_false] at hz
      have e58 := (e5.trans e6).trans (e7.trans e8)
      rcases hz with rfl | rfl | rfl | rfl | rfl | rfl | rfl | rfl | rfl | rfl | rfl | rfl | rfl | rfl | rfl | rfl | rfl | rfl | rfl
      all_goals first
        | exact .inl ⟨_, rfl⟩
        | exact .inr (.inl ⟨_, rfl⟩)
        | exact k_non
        | exact k_str
        | exact k_lst (e58 _ _ g4)
        | exact k_tup ((e6.trans (e7.trans e8)) _ _ g5)
        | exact k_dic ((e7.trans e8) _ _ g6)
    generalize hxs : ([V.int (lo - 1), .int lo, .int (lo + 1), .int (hi - 1), .int hi, .int (hi + 1), .int (0 - lo), .int (10 ^ Int.toNat 9), .int (10 ^ Int.toNat 9 + 1), .int (0 - 10 ^ Int.toNat 9), .int (-1 - 10 ^ Int.toNat 9)] ++ [V.int (lo * 10 ^ Int.toNat 20), .bl true, .bl false, .non, .str (Str.ofString (toString lo)), .ref p4, .ref p5, .ref p6]) = xs at kinds g8
    have e38 : Ex H2 H8 := ((((e3.trans e4).trans e5).trans e6).trans e7).trans e8
    refine forL (xs := xs) (fun m σ' G => (∃ v3 v4 v5 v6, σ' = [some (.ref b), some (.int lo), some (.int hi), v3, v4, v5, v6]) ∧ Ex H8 G) ⟨⟨_, _, _, _, rfl⟩, Ex.refl _⟩ (fun i σ' G _ p => SqL.of (p.2 _ _ g8)) ?_ ?_
    · rintro j z σ' G hj ⟨⟨v3, v4, v5, v6, rfl⟩, eL⟩
      have kz : Kind K G z := by
        rcases kinds z (List.mem_of_getElem? hj) with h | h | ⟨⟨n, h1, h2, h3⟩, h4⟩
        · exact .inl h
        · exact .inr (.inl h)
        · exact .inr (.inr ⟨⟨n, tyx_up eL h1, h2, h3⟩, h4⟩)
      rcases kz with ⟨i, rfl⟩ | ⟨c, rfl⟩ | ⟨⟨n, ty, kb1, kb2⟩, hne⟩
      · walk_at "ss"
        refine ⟨_, rfl, ?_⟩
        walk_at "ss"
        refine if_ff rfl ?_
        walk_at "ss"
        refine ⟨_, rfl, ?_⟩
        walk_at "ss"
        refine isi (ty_int i) kb_ii ?_
        walk_at "ss"
        refine u_whole_int ?_
        walk_at "ss"
        refine ⟨_, rfl, ?_⟩
        walk_at "ss"
        refine c_cut (M := fun σ' G' => σ' = [some (.ref b), some (.int lo), some (.int hi), v3, some (.int i), some (.bl false), some (.bl true)] ∧ G' = G) ?_ ?_
        · walk_at "ss"
          refine ⟨_, _, _, rfl, .inl ⟨_, rfl, ?_⟩⟩
          walk_at "ss"
          refine if_tt rfl ?_
          walk_at "ss"
          cases q1 : decide (lo ≤ i) with
          | true =>
            walk_at "ss"
            refine ⟨_, rfl, ?_⟩
            walk_at "ss"
            first | exact ⟨rfl, rfl⟩ | exact rfl
          | false =>
            walk_at "ss"
            refine ⟨_, rfl, ?_⟩
            walk_at "ss"
            first | exact ⟨rfl, rfl⟩ | exact rfl
        rintro σ' G' ⟨rfl, rfl⟩
        walk_at "ss"
        refine ⟨_, rfl, .inl ⟨_, rfl, ?_⟩⟩
        walk_at "ss"
        refine c_I ⟨by decide, by decide, by decide⟩ ?_
        walk_at "ss"
        have e9 : (0 - 10 ^ Int.toNat 9 : Int) = -1000000000 := by decide
        rw [e9]
        cases q1 : decide (-1000000000 ≤ i) with
        | true =>
          walk_at "ss"
          refine c_I ⟨by decide, by decide, by decide⟩ ?_
          walk_at "ss"
          refine ⟨_, rfl, ?_⟩
          walk_at "ss"
          exact ⟨⟨_, _, _, _, rfl⟩, eL⟩
        | false =>
          walk_at "ss"
          refine ⟨_, rfl, ?_⟩
          walk_at "ss"
          exact ⟨⟨_, _, _, _, rfl⟩, eL⟩
      · walk_at "ss"
        refine ⟨_, rfl, ?_⟩
        walk_at "ss"
        cases c with
        | true =>
          refine if_tt rfl ?_
          walk_at "ss"
          refine isi (ty_bl true) kb_bi ?_
          walk_at "ss"
          refine u_whole_bl ?_
          walk_at "ss"
          refine ⟨_, rfl, ?_⟩
          walk_at "ss"
          refine c_cut (M := fun σ' G' => σ' = [some (.ref b), some (.int lo), some (.int hi), v3, some (.bl true), some (.bl true), some (.bl false)] ∧ G' = G) ?_ ?_
          · walk_at "ss"
            refine ⟨_, _, _, rfl, .inr ⟨_, _, _, ty_bl true, kb_bi, kb_bb, rfl, ?_⟩⟩
            walk_at "ss"
            try (refine if_ff rfl ?_)
            walk_at "ss"
            refine ⟨_, rfl, ?_⟩
            walk_at "ss"
            first | exact ⟨rfl, rfl⟩ | exact rfl
          rintro σ' G' ⟨rfl, rfl⟩
          walk_at "ss"
          refine ⟨_, rfl, .inr (.inl ⟨_, rfl, ?_⟩)⟩
          walk_at "ss"
          refine ⟨_, rfl, ?_⟩
          walk_at "ss"
          exact ⟨⟨_, _, _, _, rfl⟩, eL⟩
        | false =>
          refine if_ff rfl ?_
          walk_at "ss"
          refine ⟨_, rfl, ?_⟩
          walk_at "ss"
          refine isi (ty_bl false) kb_bi ?_
          walk_at "ss"
          refine u_whole_bl ?_
          walk_at "ss"
          refine ⟨_, rfl, ?_⟩
          walk_at "ss"
          refine c_cut (M := fun σ' G' => σ' = [some (.ref b), some (.int lo), some (.int hi), v3, some (.bl false), some (.bl true), some (.bl false)] ∧ G' = G) ?_ ?_
          · walk_at "ss"
            refine ⟨_, _, _, rfl, .inr ⟨_, _, _, ty_bl false, kb_bi, kb_bb, rfl, ?_⟩⟩
            walk_at "ss"
            try (refine if_ff rfl ?_)
            walk_at "ss"
            refine ⟨_, rfl, ?_⟩
            walk_at "ss"
            first | exact ⟨rfl, rfl⟩ | exact rfl
          rintro σ' G' ⟨rfl, rfl⟩
          walk_at "ss"
          refine ⟨_, rfl, .inr (.inl ⟨_, rfl, ?_⟩)⟩
          walk_at "ss"
          refine ⟨_, rfl, ?_⟩
          walk_at "ss"
          exact ⟨⟨_, _, _, _, rfl⟩, eL⟩
      · walk_at "ss"
        refine ⟨_, rfl, ?_⟩
        walk_at "ss"
        refine if_ff (decide_eq_false (hne true)) ?_
        walk_at "ss"
        refine ⟨_, rfl, ?_⟩
        rw [decide_eq_false (hne false)]
        walk_at "ss"
        refine isi ty kb1 ?_
        walk_at "ss"
        refine ⟨_, _, _, _, rfl, ty, kb1, kb2, ?_⟩
        walk_at "ss"
        refine ⟨_, rfl, ?_⟩
        walk_at "ss"
        refine c_cut (M := fun σ' G' => σ' = [some (.ref b), some (.int lo), some (.int hi), v3, some z, some (.bl false), some (.bl false)] ∧ G' = G) ?_ ?_
        · walk_at "ss"
          refine ⟨_, _, _, rfl, .inr ⟨_, _, _, ty, kb1, kb2, rfl, ?_⟩⟩
          walk_at "ss"
          refine ⟨_, rfl, ?_⟩
          walk_at "ss"
          first | exact ⟨rfl, rfl⟩ | exact rfl
        rintro σ' G' ⟨rfl, rfl⟩
        walk_at "ss"
        refine ⟨_, rfl, .inr (.inr ⟨_, ty, kb1, kb2, ?_⟩)⟩
        walk_at "ss"
        refine ⟨_, rfl, ?_⟩
        walk_at "ss"
        exact ⟨⟨_, _, _, _, rfl⟩, eL⟩
    · rintro σ' G ⟨⟨v3, v4, v5, v6, rfl⟩, eL⟩
      walk_at "ss"
      exact k _ ((x1.trans x2).ex (e38.trans eL)) (hB2.ex (e38.trans eL))

def sp_near_nought_l : Sp := fun vs H Q _ => vs = [] ∧ RetV (.bl true) H Q
theorem c_inD {K : PySem.W.Frag} {H : Hp} {Q : VK} {x : V} {p : Addr} {xs : List V} (h : SqL K H p xs) (fx : okV x = true) (fl : xs.all okV = true) (q : Q (.bl (inV x xs)) H) : rInD K x (.ref p) H Q := by
  refine ⟨_, _, dp_flat (okV_flat fx), .lst h (dpAll_flat (okL_flat fl)), shaped_flat fx, shaped_lst fl, ?_⟩
  have e : (xs.map dOf).any (fun z => PyData.eqv z (dOf x)) = inV x xs := by
    rw [List.any_map]
    unfold inV
    have key : ∀ l : List V, (∀ y ∈ l, okV y = true) → l.any ((fun z => PyData.eqv z (dOf x)) ∘ dOf) = l.any fun y => eqV y x := by
      intro l
      induction l with
      | nil => intro _; rfl
      | cons a l ih =>
        intro hl
        rw [List.any_cons, List.any_cons, ih fun y hy => hl y (List.mem_cons_of_mem _ hy)]
        show (PyData.eqv (dOf a) (dOf x) || _) = _
        rw [eqv_flat (okV_flat (hl a List.mem_cons_self)) (okV_flat fx)]
    exact key xs fun y hy => List.all_eq_true.mp fl y hy
  rw [e]
  exact q

theorem ok_near_nought_l (T : Txt K mg Z) : FnOk P w K mg base CX0 3 Z.f_near_nought_l Z.fd_near_nought_l [] sp_near_nought_l := by
  have G_is_within := ok_is_within (P := P) (w := w) (base := base) T
  have G_same_l := ok_same_l (P := P) (w := w) (base := base) T
  refine T.F_near_nought_l.ok sc_near_nought_l (fun vs H Q E h => ?_) (fun cdv AA outer s H vs Q E hr h => ?_)
  · obtain ⟨rfl, _⟩ := h
    rfl
  · obtain ⟨rfl, k⟩ := h
    refine ⟨_, (pss_cons (ps_for PassesOwn.never rfl (pi_list (pe_lst (pa_cons (pe_tup (pa_cons pe_int (pa_cons pe_int pa_nil))) (pa_cons (pe_tup (pa_cons (pe_un un_neg pe_int) (pa_cons pe_int pa_nil))) (pa_cons (pe_tup (pa_cons pe_int (pa_cons pe_int pa_nil))) (pa_cons (pe_tup (pa_cons pe_int (pa_cons pe_int pa_nil))) (pa_cons (pe_tup (pa_cons pe_int (pa_cons pe_int pa_nil))) (pa_cons (pe_tup (pa_cons (pe_un un_neg pe_int) (pa_cons (pe_un un_neg pe_int) pa_nil))) pa_nil)))))))) (pg_tup (by rfl) (pgs_cons (pg_name (i := 0) sc_near_nought_l.nd rfl (Or.inl rfl)) (pgs_cons (pg_name (i := 1) sc_near_nought_l.nd rfl (Or.inl rfl)) pgs_nil))) (pss_one (ps_for PassesOwn.never rfl (pi_list (pe_lst (pa_cons pe_bl (pa_cons pe_bl (pa_cons pe_int (pa_cons pe_int (pa_cons (pe_un un_neg pe_int) (pa_cons pe_int (pa_cons (pe_un un_neg pe_int) (pa_cons pe_non (pa_cons pe_str (pa_cons (pe_lst (pa_cons pe_int pa_nil)) pa_nil)))))))))))) (pg_name (i := 2) sc_near_nought_l.nd rfl (Or.inl rfl)) (pss_cons (ps_set (i := 3) sc_near_nought_l.nd rfl (Or.inl rfl) (pe_and (pe_cmpR (op_inD (hu65 hr)) (pv 2) (pe_lst (pa_cons pe_int (pa_cons pe_int (pa_cons (pe_un un_neg pe_int) (pa_cons pe_int (pa_cons (pe_un un_neg pe_int) pa_nil)))))) (by rfl)) (pe_one (pe_not (pe_callB call_isi (by rfl) T.n_isinstance (by decide +kernel) (pa_cons (pv 2) (pa_cons (pe_bltn (v := .ty "bool") (by rfl) T.n_bool (by decide +kernel) rfl) pa_nil)))))))
      (pss_one (ps_if (pt_not (pt_val (pe_call G_same_l (hr.mono (by decide)) rfl T.g_same_l T.F_same_l.kp T.b_same_l .nil pass0 (pa_cons (pe_call G_is_within (hr.mono (by decide)) rfl T.g_is_within T.F_is_within.kp T.b_is_within .nil pass0 (pa_cons (pv 2) (pa_cons (pv 0) (pa_cons (pv 1) pa_nil)))) (pa_cons (pe_and (pv 3) (pe_one (pe_chain op_le op_le (pv 0) (pv 2) (pv 1)))) pa_nil))))) (pss_one (ps_ret pe_bl)) pss_nil))))))
      (pss_one (ps_ret pe_bl))), ?_⟩
    walk_at "ss"
    refine newT fun t1 H1 _ e1 g1 => ?_
    walk_at "ss"
    refine newT fun t2 H2 _ e2 g2 => ?_
    walk_at "ss"
    refine newT fun t3 H3 _ e3 g3 => ?_
    walk_at "ss"
    refine newT fun t4 H4 _ e4 g4 => ?_
    walk_at "ss"
    refine newT fun t5 H5 _ e5 g5 => ?_
    walk_at "ss"
    refine newT fun t6 H6 _ e6 g6 => ?_
    walk_at "ss"
    refine newL fun t7 H7 _ e7 g7 => ?_
    walk_at "ss"
    refine ⟨⟨_, SqL.of g7⟩, ?_⟩
    have pairs : ∀ z ∈ ([.ref t1, .ref t2, .ref t3, .ref t4, .ref t5, .ref t6] : List V), ∃ (q : Addr) (lo hi : Int), z = .ref q ∧ H7 q = some (.tup [.int lo, .int hi]) := by
      intro z hz
      simp only [List.mem_cons, List.not_mem_nil, or_false] at hz
      rcases hz with rfl | rfl | rfl | rfl | rfl | rfl
      · exact ⟨_, _, _, rfl, e7 _ _ (e6 _ _ (e5 _ _ (e4 _ _ (e3 _ _ (e2 _ _ g1)))))⟩
      · exact ⟨_, _, _, rfl, e7 _ _ (e6 _ _ (e5 _ _ (e4 _ _ (e3 _ _ g2))))⟩
      · exact ⟨_, _, _, rfl, e7 _ _ (e6 _ _ (e5 _ _ (e4 _ _ g3)))⟩
      · exact ⟨_, _, _, rfl, e7 _ _ (e6 _ _ (e5 _ _ g4))⟩
      · exact ⟨_, _, _, rfl, e7 _ _ (e6 _ _ g5)⟩
      · exact ⟨_, _, _, rfl, e7 _ _ g6⟩
    have e17 : Ex H H7 := (((((e1.trans e2).trans e3).trans e4).trans e5).trans e6).trans e7
    refine forLg (xs := [.ref t1, .ref t2, .ref t3, .ref t4, .ref t5, .ref t6]) (fun m σ' G => (∃ v0 v1 v2 v3, σ' = [v0, v1, v2, v3]) ∧ Ex H7 G) ⟨⟨_, _, _, _, rfl⟩, Ex.refl _⟩ (fun i σ' G _ p => SqL.of (p.2 _ _ g7)) ?_ ?_
    · rintro j z σ' G hj ⟨⟨v0, v1, v2, v3, rfl⟩, eL⟩
      obtain ⟨q, lo, hi, rfl, hq⟩ := pairs z (List.mem_of_getElem? hj)
      refine c_gTup (SqT.of (eL _ _ hq)) rfl ?_
      walk_at "ss"
      refine newL fun p1 G1 _ f1 m1 => ?_
      walk_at "ss"
      refine newL fun p2 G2 _ f2 m2 => ?_
      walk_at "ss"
      refine ⟨⟨_, SqL.of m2⟩, ?_⟩
      refine forL (xs := [.bl true, .bl false, .int 0, .int 1, .int (-1), .int 4, .int (-3), .non, .str "0", .ref p1]) (fun m σ' G' => (∃ v2 v3, σ' = [some (.int lo), some (.int hi), v2, v3]) ∧ Ex G2 G') ⟨⟨_, _, rfl⟩, Ex.refl _⟩ (fun i σ' G _ p => SqL.of (p.2 _ _ m2)) ?_ ?_
      · rintro i z σ' G3 hi ⟨⟨v2, v3, rfl⟩, eM⟩
        have hz := List.mem_of_getElem? hi
        have m1' := eM _ _ (f2 _ _ m1)
        have three : (∃ i, z = .int i ∧ inV z [.int 0, .int 1, .int (-1), .int 4, .int (-3)] = true) ∨ (∃ c, z = .bl c ∧ inV z [.int 0, .int 1, .int (-1), .int 4, .int (-3)] = true) ∨ (okV z = true ∧ inV z [.int 0, .int 1, .int (-1), .int 4, .int (-3)] = false ∧ ∃ n, (∀ G, TyX K G z (.type n)) ∧ kitB n "int" = some false ∧ kitB n "bool" = some false) ∨ z = .ref p1 := by
          simp only [List.mem_cons, List.not_mem_nil, or_false] at hz
          rcases hz with rfl | rfl | rfl | rfl | rfl | rfl | rfl | rfl | rfl | rfl
          · exact .inr (.inl ⟨_, rfl, by decide +kernel⟩)
          · exact .inr (.inl ⟨_, rfl, by decide +kernel⟩)
          · exact .inl ⟨_, rfl, by decide +kernel⟩
          · exact .inl ⟨_, rfl, by decide +kernel⟩
          · exact .inl ⟨_, rfl, by decide +kernel⟩
          · exact .inl ⟨_, rfl, by decide +kernel⟩
          · exact .inl ⟨_, rfl, by decide +kernel⟩
          · exact .inr (.inr (.inl ⟨rfl, by decide +kernel, _, fun _ => ty_non, by decide +kernel, by decide +kernel⟩))
          · exact .inr (.inr (.inl ⟨by decide +kernel, by decide +kernel, _, fun _ => ty_str _, by decide +kernel, by decide +kernel⟩))
          · exact .inr (.inr (.inr rfl))
        walk_at "ss"
        refine newL fun p3 G4 _ f4 m4 => ?_
        rcases three with ⟨i, rfl, hin⟩ | ⟨c, rfl, hin⟩ | ⟨okz, hin, n, ty, kb1, kb2⟩ | rfl
        · refine c_inD (SqL.of m4) rfl rfl ?_
          rw [hin]
          walk_at "ss"
          refine isi (ty_int i) kb_ib ?_
          walk_at "ss"
          refine ⟨_, _, _, rfl, .inl ⟨_, rfl, ?_⟩⟩
          walk_at "ss"
          cases q1 : decide (lo ≤ i) with
          | true =>
            walk_at "ss"
            refine ⟨_, rfl, ?_⟩
            walk_at "ss"
            exact ⟨⟨_, _, rfl⟩, eM.trans f4⟩
          | false =>
            walk_at "ss"
            refine ⟨_, rfl, ?_⟩
            walk_at "ss"
            exact ⟨⟨_, _, rfl⟩, eM.trans f4⟩
        · refine c_inD (SqL.of m4) rfl rfl ?_
          rw [hin]
          walk_at "ss"
          refine isi (ty_bl c) kb_bb ?_
          walk_at "ss"
          refine ⟨_, _, _, rfl, .inr ⟨_, _, _, ty_bl c, kb_bi, kb_bb, rfl, ?_⟩⟩
          walk_at "ss"
          refine ⟨_, rfl, ?_⟩
          walk_at "ss"
          exact ⟨⟨_, _, rfl⟩, eM.trans f4⟩
        · refine c_inD (SqL.of m4) okz rfl ?_
          rw [hin]
          walk_at "ss"
          refine ⟨_, _, _, rfl, .inr ⟨_, _, _, ty _, kb1, kb2, rfl, ?_⟩⟩
          walk_at "ss"
          refine ⟨_, rfl, ?_⟩
          walk_at "ss"
          exact ⟨⟨_, _, rfl⟩, eM.trans f4⟩
        · refine ⟨.list [.int 1], [.int 0, .int 1, .int (-1), .int 4, .int (-3)], .lst (SqL.of (f4 _ _ m1')) (.cons (.int 1) .nil), .lst (SqL.of m4) (.cons (.int _) (.cons (.int _) (.cons (.int _) (.cons (.int _) (.cons (.int _) .nil))))), by decide +kernel, by decide +kernel, ?_⟩
          rw [show (([.int 0, .int 1, .int (-1), .int 4, .int (-3)] : List PyData).any fun z => PyData.eqv z (.list [.int 1])) = false by decide +kernel]
          walk_at "ss"
          refine ⟨_, _, _, rfl, .inr ⟨_, false, false, ty_lst (f4 _ _ m1'), by decide +kernel, by decide +kernel, rfl, ?_⟩⟩
          walk_at "ss"
          refine ⟨_, rfl, ?_⟩
          walk_at "ss"
          exact ⟨⟨_, _, rfl⟩, eM.trans f4⟩
      · rintro σ' G3 ⟨⟨v2, v3, rfl⟩, eM⟩
        walk_at "ss"
        exact ⟨⟨_, _, _, _, rfl⟩, ((eL.trans f1).trans f2).trans eM⟩
    · rintro σ' G ⟨⟨v0, v1, v2, v3, rfl⟩, eL⟩
      walk_at "ss"
      exact k _ (e17.trans eL)

open TL (tl)
theorem c_disp {trs : List (TE × TE)} {σ : St} {H : Hp} {Q : VK} (h : ∀ p, H p = none → tPairs trs σ (upd H p (.dK [])) fun ps H2 => H2 p = some (.dK []) ∧ ∃ kvs : List (Key × V), ps = kvs.map (fun kv => (kV kv.1, kv.2)) ∧ kvs.length ≤ 15 ∧ Q (.ref p) (upd H2 p (.dK (mergeK [] kvs)))) : tDisp trs σ H Q := h
theorem c_pairs {tk tv : TE} {r : List (TE × TE)} {σ : St} {H : Hp} {Q : List (V × V) → Hp → Prop} (h : tk σ H fun x H1 => tv σ H1 fun y H2 => tPairs r σ H2 fun ps H3 => Q ((x, y) :: ps) H3) : tPairs ((tk, tv) :: r) σ H Q := h
theorem c_pairs0 {σ : St} {H : Hp} {Q : List (V × V) → Hp → Prop} (h : Q [] H) : tPairs [] σ H Q := h
theorem own_told : ∀ w ∈ ownW, w.length ≤ 6 ∧ isName w = false ∧ isPointed ("a." ++ w) = false ∧ isName (w ++ "q") = true := by decide +kernel
theorem own_ok : ownV.all okV = true := by decide +kernel
theorem kb_ns : kitB "NoneType" "str" = some false := by decide +kernel
theorem kb_is : kitB "int" "str" = some false := by decide +kernel
theorem kb_bs : kitB "bool" "str" = some false := by decide +kernel
theorem kb_ls : kitB "list" "str" = some false := by decide +kernel
theorem kb_ts : kitB "tuple" "str" = some false := by decide +kernel
theorem kb_ds : kitB "dict" "str" = some false := by decide +kernel
def Told (K : PySem.W.Frag) (G : Hp) (z : V) : Prop := (∃ t : Str, z = .str t ∧ t.length ≤ 40000 ∧ OkT t) ∨ ∃ n : String, TyX K G z (.type n) ∧ kitB n "str" = some false
theorem told_lit {K : PySem.W.Frag} {G : Hp} {t : Str} (h : t.length ≤ 40000) (o : OkT t) : Told K G (.str t) := .inl ⟨_, rfl, h, o⟩
def sp_law (K : PySem.W.Frag) : Sp := fun vs H Q _ => ∃ (a : Addr) (ns : List Int), vs = [.ref a] ∧ SqL K H a (ns.map V.int) ∧ ns.length ≤ 63 ∧ ∀ H', Q (.bl true) H'
theorem ok_law (T : Txt K mg Z) : FnOk P w K mg base CX0 5 Z.f_law Z.fd_law ["_law_script"] (sp_law K) := by
  have G_own_words := ok_own_words (P := P) (w := w) (base := base) T
  have G_is_name := ok_is_name (P := P) (w := w) (base := base) T
  have G_is_pointed := ok_is_pointed (P := P) (w := w) (base := base) T
  have G_cell_at_l := ok_cell_at_l (P := P) (w := w) (base := base) T
  have G_box_l := ok_box_l (P := P) (w := w) (base := base) T
  have G_words_l := ok_words_l (P := P) (w := w) (base := base) T
  have G_name_l := ok_name_l (P := P) (w := w) (base := base) T
  have G_pointed_l := ok_pointed_l (P := P) (w := w) (base := base) T
  have G_same_l := ok_same_l (P := P) (w := w) (base := base) T
  have G_text_l := ok_text_l (P := P) (w := w) (base := base) T
  have G_word_l := ok_word_l (P := P) (w := w) (base := base) T
  have G_points_l := ok_points_l (P := P) (w := w) (base := base) T
  have G_numbers_l := ok_numbers_l (P := P) (w := w) (base := base) T
  have G_near_nought_l := ok_near_nought_l (P := P) (w := w) (base := base) T
  refine T.F_law.ok sc_law (fun vs H Q E h => ?_) (fun cdv AA outer s H vs Q E hr h => ?_)
  · obtain ⟨a, ns, rfl, _⟩ := h
    rfl
  · obtain ⟨a, ns, rfl, hS, hl, k⟩ := h
    refine ⟨_, (pss_cons (ps_for PassesOwn.never rfl (pi_range1 (by rfl) T.n_range (pa_cons (pe_callB (call_max2 rfl) (by rfl) T.n_max (by decide +kernel) (pa_cons pe_int (pa_cons (pe_callB (call_min2 rfl) (by rfl) T.n_min (by decide +kernel) (pa_cons pe_int (pa_cons (pe_callB call_len_seq (by rfl) T.n_len (by decide +kernel) (pa_cons (pv 0) pa_nil)) pa_nil))) pa_nil))) pa_nil)) (pg_name (i := 1) sc_law.nd rfl (Or.inl rfl)) (pss_cons (ps_set (i := 2) sc_law.nd rfl (Or.inl rfl) (pe_call G_box_l (hr.mono (by decide)) rfl T.g_box_l T.F_box_l.kp T.b_box_l .nil pass0 (pa_cons (pe_call G_cell_at_l (hr.mono (by decide)) rfl T.g_cell_at_l T.F_cell_at_l.kp T.b_cell_at_l .nil pass0 (pa_cons (pv 0) (pa_cons (pv 1) pa_nil))) pa_nil)))
      (pss_cons (ps_if (pt_not (pt_val (pe_call G_numbers_l (hr.mono (by decide)) rfl T.g_numbers_l T.F_numbers_l.kp T.b_numbers_l .nil pass0 (pa_cons (pv 2) pa_nil)))) (pss_one (ps_ret pe_bl)) pss_nil)
      (pss_cons (ps_set (i := 3) sc_law.nd rfl (Or.inl rfl) (pe_lst (pa_cons (pe_call G_text_l (hr.mono (by decide)) rfl T.g_text_l T.F_text_l.kp T.b_text_l .nil pass0 (pa_cons (pv 2) pa_nil)) (pa_cons (pe_call G_word_l (hr.mono (by decide)) rfl T.g_word_l T.F_word_l.kp T.b_word_l .nil pass0 (pa_cons (pv 2) pa_nil)) (pa_cons (pe_call G_points_l (hr.mono (by decide)) rfl T.g_points_l T.F_points_l.kp T.b_points_l .nil pass0 (pa_cons (pv 2) pa_nil)) (pa_cons (pe_op op_rep_str pe_str pe_int) (pa_cons (pe_op op_rep_str pe_str pe_int) (pa_cons pe_str (pa_cons pe_str (pa_cons pe_str (pa_cons pe_str (pa_cons pe_str pa_nil))))))))))))
      (pss_cons (ps_set (i := 3) sc_law.nd rfl (Or.inl rfl) (pe_op op_cat (pv 3) (pe_lst (pa_cons (pe_op op_add_str (pe_op op_rep_str pe_str pe_int) pe_str) (pa_cons (pe_op op_add_str (pe_op op_rep_str pe_str pe_int) (pe_slice sl_str pe_str (po_some pe_int) po_none)) (pa_cons (pe_op op_add_str (pe_op op_rep_str pe_str pe_int) pe_str) pa_nil))))))
      (pss_one (ps_for PassesOwn.never rfl (pi_list (pe_op op_cat (pv 3) (pe_lst (pa_cons pe_int (pa_cons pe_bl (pa_cons pe_non (pa_cons (pe_lst (pa_cons pe_str (pa_cons pe_str pa_nil))) (pa_cons (pe_tup (pa_cons pe_str pa_nil)) (pa_cons (pe_disp (pps_cons pe_str pe_str pps_nil) (by rfl) (by rfl) (fun z => by cases z) (by decide)) pa_nil))))))))) (pg_name (i := 4) sc_law.nd rfl (Or.inl rfl)) (pss_one (ps_if (PW.pt (pw_or (pt_not (pt_val (pe_call G_same_l (hr.mono (by decide)) rfl T.g_same_l T.F_same_l.kp T.b_same_l .nil pass0 (pa_cons (pe_call G_is_name (hr.mono (by decide)) rfl T.g_is_name T.F_is_name.kp T.b_is_name .nil pass0 (pa_cons (pv 4) pa_nil)) (pa_cons (pe_call G_name_l (hr.mono (by decide)) rfl T.g_name_l T.F_name_l.kp T.b_name_l .nil pass0 (pa_cons (pv 4) pa_nil)) pa_nil))))) (pw_or1 (pt_not (pt_val (pe_call G_same_l (hr.mono (by decide)) rfl T.g_same_l T.F_same_l.kp T.b_same_l .nil pass0 (pa_cons (pe_call G_is_pointed (hr.mono (by decide)) rfl T.g_is_pointed T.F_is_pointed.kp T.b_is_pointed .nil pass0 (pa_cons (pv 4) pa_nil)) (pa_cons (pe_call G_pointed_l (hr.mono (by decide)) rfl T.g_pointed_l T.F_pointed_l.kp T.b_pointed_l .nil pass0 (pa_cons (pv 4) pa_nil)) pa_nil)))))))) (pss_one (ps_ret pe_bl)) pss_nil)))))))))
      (pss_cons (ps_for PassesOwn.never rfl (pi_list (pe_call0 G_words_l (hr.mono (by decide)) rfl T.g_words_l T.F_words_l.kp T.b_words_l .nil pass0)) (pg_name (i := 5) sc_law.nd rfl (Or.inl rfl)) (pss_one (ps_if (PW.pt (pw_or (pt_cmpR op_notB (pe_call G_is_name (hr.mono (by decide)) rfl T.g_is_name T.F_is_name.kp T.b_is_name .nil pass0 (pa_cons (pv 5) pa_nil)) pe_bl (nomark _)) (pw_or (pt_cmpR op_notB (pe_call G_is_pointed (hr.mono (by decide)) rfl T.g_is_pointed T.F_is_pointed.kp T.b_is_pointed .nil pass0 (pa_cons (pe_op op_add_str pe_str (pv 5)) pa_nil)) pe_bl (nomark _)) (pw_or1 (pt_cmpR op_notB (pe_call G_is_name (hr.mono (by decide)) rfl T.g_is_name T.F_is_name.kp T.b_is_name .nil pass0 (pa_cons (pe_op op_add_str (pv 5) pe_str) pa_nil)) pe_bl (nomark _)))))) (pss_one (ps_ret pe_bl)) pss_nil)))
      (pss_cons (ps_set (i := 6) sc_law.nd rfl (Or.inl rfl) (pe_call0 G_own_words (hr.mono (by decide)) rfl T.g_own_words T.F_own_words.kp T.b_own_words .nil pass0))
      (pss_cons (ps_if (pt_not (pt_val (pe_call0 G_near_nought_l (hr.mono (by decide)) rfl T.g_near_nought_l T.F_near_nought_l.kp T.b_near_nought_l .nil pass0))) (pss_one (ps_ret pe_bl)) pss_nil)
      (pss_cons (ps_if (PW.pt (pw_or (pt_not (pt_val (pe_callB call_isi (by rfl) T.n_isinstance (by decide +kernel) (pa_cons (pv 6) (pa_cons (pe_bltn (v := .ty "list") (by rfl) T.n_list (by decide +kernel) rfl) pa_nil))))) (pw_or1 (pt_cmpR (op_neD hr.units) (pv 6) (pe_call0 G_words_l (hr.mono (by decide)) rfl T.g_words_l T.F_words_l.kp T.b_words_l .nil pass0) (nomark _))))) (pss_one (ps_ret pe_bl)) pss_nil)
      (pss_cons (ps_expr (pe_bm PySem.F.plainAttrs_list PySem.F.slot_list_append PySem.F.type_list_append mt_append (pv 6) (pa_cons pe_str pa_nil)))
      (pss_one (ps_ret (pe_cmpR (op_eqD hr.units) (pe_call0 G_own_words (hr.mono (by decide)) rfl T.g_own_words T.F_own_words.kp T.b_own_words .nil pass0) (pe_call0 G_words_l (hr.mono (by decide)) rfl T.g_words_l T.F_words_l.kp T.b_words_l .nil pass0) (nomark _)))))))))), ?_⟩
    walk_at "ss"
    refine ⟨_, _, rfl, .inl hS, ?_⟩
    walk_at "ss"
    refine ⟨_, _, rfl, ?_⟩
    walk_at "ss"
    refine ⟨_, _, rfl, ?_⟩
    walk_at "ss"
    refine ⟨by split <;> split <;> omega, by split <;> split <;> omega, ?_⟩
    refine forR (fun i σ' H' => (∃ v1 v2 v3 v4 v5 v6, σ' = [some (.ref a), v1, v2, v3, v4, v5, v6]) ∧ Ex H H') ⟨⟨_, _, _, _, _, _, rfl⟩, Ex.refl _⟩ ?_ ?_
    · rintro i σ' H' hi ⟨⟨v1, v2, v3, v4, v5, v6, rfl⟩, e⟩
      walk_at "ss"
      refine ⟨_, _, _, rfl, ex_l e hS, by omega, fun n => ?_⟩
      walk_at "ss"
      refine ⟨_, rfl, fun b G1 hb f1 hB => ?_⟩
      walk_at "ss"
      refine ⟨_, rfl, hB, fun G2 x2 hB2 => ?_⟩
      walk_at "ss"
      refine ⟨_, rfl, hB2, fun u1 G3 ul1 uo1 x3 hB3 => ?_⟩
      walk_at "ss"
      refine ⟨_, rfl, hB3, fun u2 G4 ul2 uo2 x4 hB4 => ?_⟩
      walk_at "ss"
      refine ⟨_, rfl, hB4, fun u3 G5 ul3 uo3 x5 hB5 => ?_⟩
      walk_at "ss"
      refine ⟨by decide, by decide, by decide +kernel, by decide +kernel, ?_⟩
      dsimp only
      walk_at "ss"
      refine ⟨by decide, by decide, by decide +kernel, by decide +kernel, ?_⟩
      dsimp only
      walk_at "ss"
      refine newL fun p6 G6 hp6 f6 g6 => ?_
      walk_at "ss"
      refine ⟨by decide, by decide, by decide +kernel, by decide +kernel, ?_⟩
      dsimp only
      walk_at "ss"
      refine ⟨Evl.sz_of (by decide +kernel), ?_⟩
      walk_at "ss"
      refine ⟨by decide, by decide, by decide +kernel, by decide +kernel, ?_⟩
      dsimp only
      walk_at "ss"
      refine c_slS (by decide +kernel) ?_
      walk_at "ss"
      refine ⟨Evl.sz_of (by decide +kernel), ?_⟩
      walk_at "ss"
      refine ⟨by decide, by decide, by decide +kernel, by decide +kernel, ?_⟩
      dsimp only
      walk_at "ss"
      refine ⟨Evl.sz_of (by decide +kernel), ?_⟩
      walk_at "ss"
      refine newL fun p7 G7 hp7 f7 g7 => ?_
      refine c_cat (f7 _ _ g6) g7 fun p8 G8 hp8 f8 g8 => ?_
      walk_at "ss"
      refine newL fun p9 G9 hp9 f9 g9 => ?_
      walk_at "ss"
      refine newT fun p10 G10 hp10 f10 g10 => ?_
      walk_at "ss"
      refine c_disp fun p11 hp11 => c_pairs ?_
      walk_at "ss"
      refine c_pairs0 ?_
      refine ⟨upd_same, [(.inr "a", .str "b")], rfl, by decide, ?_⟩
      have f11 : Ex G10 (upd (upd G10 p11 (.dK [])) p11 (.dK (mergeK [] [(.inr "a", .str "b")]))) := fun a' o' ha' => by
        rw [upd_ne (ne_of_none ha' hp11), upd_ne (ne_of_none ha' hp11)]
        exact ha'
      generalize hG11 : upd (upd G10 p11 (.dK [])) p11 (.dK (mergeK [] [(.inr "a", .str "b")])) = G11 at f11
      have g11 : G11 p11 = some (.dK (mergeK [] [(.inr "a", .str "b")])) := by rw [← hG11, upd_same]
      walk_at "ss"
      refine newL fun p12 G12 hp12 f12 g12 => ?_
      refine c_cat ((((f9.trans f10).trans f11).trans f12) _ _ g8) g12 fun p13 G13 hp13 f13 g13 => ?_
      walk_at "ss"
      refine ⟨⟨_, SqL.of g13⟩, ?_⟩
      have f613 : Ex G5 G13 := ((((((f6.trans f7).trans f8).trans f9).trans f10).trans f11).trans f12).trans f13
      obtain ⟨xs, hxs, told⟩ : ∃ xs : List V, G13 p13 = some (.lst xs) ∧ ∀ z ∈ xs, Told K G13 z := by
        refine ⟨_, g13, fun z hz => ?_⟩
        simp only [List.cons_append, List.nil_append, List.mem_cons, List.not_mem_nil, or_false] at hz
        rcases hz with rfl | rfl | rfl | rfl | rfl | rfl | rfl | rfl | rfl | rfl | rfl | rfl | rfl | rfl | rfl | rfl | rfl | rfl | rfl
        · exact told_lit (by omega) uo1
        · exact told_lit (by omega) uo2
        · exact told_lit (by omega) uo3
        all_goals first
          | exact told_lit (by decide +kernel) (OkT.lit (by decide +kernel))
          | exact .inr ⟨_, ty_int _, kb_is⟩
          | exact .inr ⟨_, ty_bl _, kb_bs⟩
          | exact .inr ⟨_, ty_non, kb_ns⟩
          | exact .inr ⟨_, ty_lst ((f10.trans (f11.trans (f12.trans f13))) _ _ g9), kb_ls⟩
          | exact .inr ⟨_, ty_tup ((f11.trans (f12.trans f13)) _ _ g10), kb_ts⟩
          | exact .inr ⟨_, .base (.dK ((f12.trans f13) _ _ g11)), kb_ds⟩
      refine forL (xs := xs) (fun m σ' G => (∃ v1 v2 v3 v4 v5 v6, σ' = [some (.ref a), v1, v2, v3, v4, v5, v6]) ∧ Ex G13 G) ⟨⟨_, _, _, _, _, _, rfl⟩, Ex.refl _⟩ (fun i σ' G _ p => SqL.of (p.2 _ _ hxs)) ?_ ?_
      · rintro j z σ' G hj ⟨⟨v1, v2, v3, v4, v5, v6, rfl⟩, eL⟩
        rcases told z (List.mem_of_getElem? hj) with ⟨t, rfl, tl', to⟩ | ⟨n, ty, kb⟩
        · walk_at "ss"
          refine ⟨_, rfl, .inl ⟨_, rfl, by omega, fun L1 y1 => ?_⟩⟩
          walk_at "ss"
          refine ⟨_, rfl, .inl ⟨_, rfl, by omega, to, fun L2 y2 => ?_⟩⟩
          walk_at "ss"
          refine ⟨_, rfl, ?_⟩
          walk_at "ss"
          refine ⟨_, rfl, .inl ⟨_, rfl, by omega, fun L3 y3 => ?_⟩⟩
          walk_at "ss"
          refine ⟨_, rfl, .inl ⟨_, rfl, by omega, to, fun L4 y4 => ?_⟩⟩
          walk_at "ss"
          refine ⟨_, rfl, ?_⟩
          walk_at "ss"
          exact ⟨⟨_, _, _, _, _, _, rfl⟩, (((eL.trans y1).trans y2).trans y3).trans y4⟩
        · have ty' := tyx_up eL ty
          walk_at "ss"
          refine ⟨_, rfl, .inr ⟨_, ty', kb, ?_⟩⟩
          walk_at "ss"
          refine ⟨_, rfl, .inr ⟨_, ty', kb, ?_⟩⟩
          walk_at "ss"
          refine ⟨_, rfl, ?_⟩
          walk_at "ss"
          refine ⟨_, rfl, .inr ⟨_, ty', kb, ?_⟩⟩
          walk_at "ss"
          refine ⟨_, rfl, .inr ⟨_, ty', kb, ?_⟩⟩
          walk_at "ss"
          refine ⟨_, rfl, ?_⟩
          walk_at "ss"
          exact ⟨⟨_, _, _, _, _, _, rfl⟩, eL⟩
      · rintro σ' G ⟨⟨v1, v2, v3, v4, v5, v6, rfl⟩, eL⟩
        walk_at "ss"
        refine ⟨⟨_, _, _, _, _, _, rfl⟩, e.trans ?_⟩
        exact ExB.tot f1 hb ((((x2.trans x3).trans x4).trans x5).ex (f613.trans eL))
    · rintro σ' H' ⟨⟨v1, v2, v3, v4, v5, v6, rfl⟩, e⟩
      walk_at "ss"
      refine ⟨rfl, fun p1 H1 hp1 e1 g1 => ?_⟩
      walk_at "ss"
      refine ⟨⟨_, SqL.of g1⟩, ?_⟩
      refine forL (xs := ownV) (fun m σ' G => (∃ v5, σ' = [some (.ref a), v1, v2, v3, v4, v5, v6]) ∧ Ex H1 G) ⟨⟨_, rfl⟩, Ex.refl _⟩ (fun i σ' G _ p => SqL.of (p.2 _ _ g1)) ?_ ?_
      · rintro j z σ' G hj ⟨⟨v5, rfl⟩, eL⟩
        obtain ⟨t, ht, rfl⟩ := List.mem_map.mp (List.mem_of_getElem? hj)
        obtain ⟨tl', n1, n2, n3⟩ := own_told t ht
        have la : ("a." : Str).length = 2 := by decide +kernel
        have lq : ("q" : Str).length = 1 := by decide +kernel
        walk_at "ss"
        refine ⟨_, rfl, .inl ⟨_, rfl, by omega, fun L1 y1 => ?_⟩⟩
        rw [n1]
        walk_at "ss"
        refine ⟨_, rfl, ?_⟩
        walk_at "ss"
        refine if_ff rfl ?_
        walk_at "ss"
        refine ⟨Evl.sz_of (by omega), ?_⟩
        walk_at "ss"
        refine ⟨_, rfl, .inl ⟨_, rfl, by rw [add_len]; omega, fun L2 y2 => ?_⟩⟩
        rw [n2]
        walk_at "ss"
        refine ⟨_, rfl, ?_⟩
        walk_at "ss"
        refine if_ff rfl ?_
        walk_at "ss"
        refine ⟨Evl.sz_of (by omega), ?_⟩
        walk_at "ss"
        refine ⟨_, rfl, .inl ⟨_, rfl, by rw [add_len]; omega, fun L3 y3 => ?_⟩⟩
        rw [n3]
        walk_at "ss"
        refine ⟨_, rfl, ?_⟩
        walk_at "ss"
        refine if_ff rfl ?_
        walk_at "ss"
        exact ⟨⟨_, rfl⟩, ((eL.trans y1).trans y2).trans y3⟩
      · rintro σ' G ⟨⟨v5, rfl⟩, eL⟩
        walk_at "ss"
        refine ⟨rfl, fun p2 H2 hp2 e2 g2 => ?_⟩
        walk_at "ss"
        refine ⟨rfl, fun H3 e3 => ?_⟩
        walk_at "ss"
        refine isi (ty_lst (e3 _ _ g2)) (show kitB "list" "list" = some true by decide +kernel) ?_
        walk_at "ss"
        refine ⟨rfl, fun p4 H4 hp4 e4 g4 => ?_⟩
        refine c_neLs (SqL.of (e4 _ _ (e3 _ _ g2))) (SqL.of g4) own_ok own_ok ?_
        rw [show eqL ownV ownV = true by decide +kernel]
        walk_at "ss"
        refine ⟨.inl ⟨rfl, _, SqL.of (e4 _ _ (e3 _ _ g2))⟩, ?_⟩
        walk_at "ss"
        refine ⟨p2, _, _, rfl, rfl, e4 _ _ (e3 _ _ g2), Evl.sz_lt (by decide), ?_⟩
        walk_at "ss"
        refine ⟨rfl, fun p5 H5 hp5 e5 g5 => ?_⟩
        walk_at "ss"
        refine ⟨rfl, fun p6 H6 hp6 e6 g6 => ?_⟩
        refine c_eqLs (SqL.of (e6 _ _ g5)) (SqL.of g6) own_ok own_ok ?_
        rw [show eqL ownV ownV = true by decide +kernel]
        exact k _

end
theorem all_mk {l : PySem.W.OpenLaw} {w : World} {K : PySem.W.Frag} {h : Heap} {mg : Str → Option Value} {fa : Addr} (X : K.In h) (G : h.Ns mainGlobals mg) (hfa : mg "law" = some (.ref fa))
    {f0 : Addr} {od0 an0 : Option Addr} {sl0 : Array (Option Value)} {oc0 kV0 dc0 pm0 cd0 ct0 : Value}
    {f1 : Addr} {od1 an1 : Option Addr} {sl1 : Array (Option Value)} {oc1 kV1 dc1 pm1 cd1 ct1 : Value}
    {f2 : Addr} {od2 an2 : Option Addr} {sl2 : Array (Option Value)} {oc2 kV2 dc2 pm2 cd2 ct2 : Value}
    {f3 : Addr} {od3 an3 : Option Addr} {sl3 : Array (Option Value)} {oc3 kV3 dc3 pm3 cd3 ct3 : Value}
    {f4 : Addr} {od4 an4 : Option Addr} {sl4 : Array (Option Value)} {oc4 kV4 dc4 pm4 cd4 ct4 : Value}
    {f5 : Addr} {od5 an5 : Option Addr} {sl5 : Array (Option Value)} {oc5 kV5 dc5 pm5 cd5 ct5 : Value}
    {f6 : Addr} {od6 an6 : Option Addr} {sl6 : Array (Option Value)} {oc6 kV6 dc6 pm6 cd6 ct6 : Value}
    {f7 : Addr} {od7 an7 : Option Addr} {sl7 : Array (Option Value)} {oc7 kV7 dc7 pm7 cd7 ct7 : Value}
    {f8 : Addr} {od8 an8 : Option Addr} {sl8 : Array (Option Value)} {oc8 kV8 dc8 pm8 cd8 ct8 : Value}
    {f9 : Addr} {od9 an9 : Option Addr} {sl9 : Array (Option Value)} {oc9 kV9 dc9 pm9 cd9 ct9 : Value}
    {f10 : Addr} {od10 an10 : Option Addr} {sl10 : Array (Option Value)} {oc10 kV10 dc10 pm10 cd10 ct10 : Value}
    {f11 : Addr} {od11 an11 : Option Addr} {sl11 : Array (Option Value)} {oc11 kV11 dc11 pm11 cd11 ct11 : Value}
    {f12 : Addr} {od12 an12 : Option Addr} {sl12 : Array (Option Value)} {oc12 kV12 dc12 pm12 cd12 ct12 : Value}
    {f13 : Addr} {od13 an13 : Option Addr} {sl13 : Array (Option Value)} {oc13 kV13 dc13 pm13 cd13 ct13 : Value}
    {f14 : Addr} {od14 an14 : Option Addr} {sl14 : Array (Option Value)} {oc14 kV14 dc14 pm14 cd14 ct14 : Value}
    {f15 : Addr} {od15 an15 : Option Addr} {sl15 : Array (Option Value)} {oc15 kV15 dc15 pm15 cd15 ct15 : Value}
    {f16 : Addr} {od16 an16 : Option Addr} {sl16 : Array (Option Value)} {oc16 kV16 dc16 pm16 cd16 ct16 : Value}
    {f17 : Addr} {od17 an17 : Option Addr} {sl17 : Array (Option Value)} {oc17 kV17 dc17 pm17 cd17 ct17 : Value}
    {f18 : Addr} {od18 an18 : Option Addr} {sl18 : Array (Option Value)} {oc18 kV18 dc18 pm18 cd18 ct18 : Value}
    (a0 : PySem.W.nsIn K mainGlobals "is_whole" = some (some (.ref f0))) (l0 : K.lookup f0 = some ⟨oc0, od0, .func (PySem.W.fnOf "is_whole" "is_whole" (defArgs s_is_whole) (defBody s_is_whole) (defScope s_is_whole) .none kV0 dc0 pm0 an0 cd0 ct0), sl0⟩) (c0 : PySem.W.codeIn K cd0 "is_whole" = true) (k0 : PySem.W.keepIn K (.ref f0) = true)
    (a1 : PySem.W.nsIn K mainGlobals "is_within" = some (some (.ref f1))) (l1 : K.lookup f1 = some ⟨oc1, od1, .func (PySem.W.fnOf "is_within" "is_within" (defArgs s_is_within) (defBody s_is_within) (defScope s_is_within) .none kV1 dc1 pm1 an1 cd1 ct1), sl1⟩) (c1 : PySem.W.codeIn K cd1 "is_within" = true) (k1 : PySem.W.keepIn K (.ref f1) = true)
    (a2 : PySem.W.nsIn K mainGlobals "own_words" = some (some (.ref f2))) (l2 : K.lookup f2 = some ⟨oc2, od2, .func (PySem.W.fnOf "own_words" "own_words" (defArgs s_own_words) (defBody s_own_words) (defScope s_own_words) .none kV2 dc2 pm2 an2 cd2 ct2), sl2⟩) (c2 : PySem.W.codeIn K cd2 "own_words" = true) (k2 : PySem.W.keepIn K (.ref f2) = true)
    (a3 : PySem.W.nsIn K mainGlobals "is_name" = some (some (.ref f3))) (l3 : K.lookup f3 = some ⟨oc3, od3, .func (PySem.W.fnOf "is_name" "is_name" (defArgs s_is_name) (defBody s_is_name) (defScope s_is_name) .none kV3 dc3 pm3 an3 cd3 ct3), sl3⟩) (c3 : PySem.W.codeIn K cd3 "is_name" = true) (k3 : PySem.W.keepIn K (.ref f3) = true)
    (a4 : PySem.W.nsIn K mainGlobals "is_pointed" = some (some (.ref f4))) (l4 : K.lookup f4 = some ⟨oc4, od4, .func (PySem.W.fnOf "is_pointed" "is_pointed" (defArgs s_is_pointed) (defBody s_is_pointed) (defScope s_is_pointed) .none kV4 dc4 pm4 an4 cd4 ct4), sl4⟩) (c4 : PySem.W.codeIn K cd4 "is_pointed" = true) (k4 : PySem.W.keepIn K (.ref f4) = true)
    (a5 : PySem.W.nsIn K mainGlobals "is_value" = some (some (.ref f5))) (l5 : K.lookup f5 = some ⟨oc5, od5, .func (PySem.W.fnOf "is_value" "is_value" (defArgs s_is_value) (defBody s_is_value) (defScope s_is_value) .none kV5 dc5 pm5 an5 cd5 ct5), sl5⟩) (c5 : PySem.W.codeIn K cd5 "is_value" = true) (k5 : PySem.W.keepIn K (.ref f5) = true)
    (a6 : PySem.W.nsIn K mainGlobals "_law_cell_at" = some (some (.ref f6))) (l6 : K.lookup f6 = some ⟨oc6, od6, .func (PySem.W.fnOf "_law_cell_at" "_law_cell_at" (defArgs s_cell_at_l) (defBody s_cell_at_l) (defScope s_cell_at_l) .none kV6 dc6 pm6 an6 cd6 ct6), sl6⟩) (c6 : PySem.W.codeIn K cd6 "_law_cell_at" = true) (k6 : PySem.W.keepIn K (.ref f6) = true)
    (a7 : PySem.W.nsIn K mainGlobals "_law_box" = some (some (.ref f7))) (l7 : K.lookup f7 = some ⟨oc7, od7, .func (PySem.W.fnOf "_law_box" "_law_box" (defArgs s_box_l) (defBody s_box_l) (defScope s_box_l) .none kV7 dc7 pm7 an7 cd7 ct7), sl7⟩) (c7 : PySem.W.codeIn K cd7 "_law_box" = true) (k7 : PySem.W.keepIn K (.ref f7) = true)
    (a8 : PySem.W.nsIn K mainGlobals "_law_take" = some (some (.ref f8))) (l8 : K.lookup f8 = some ⟨oc8, od8, .func (PySem.W.fnOf "_law_take" "_law_take" (defArgs s_take_l) (defBody s_take_l) (defScope s_take_l) .none kV8 dc8 pm8 an8 cd8 ct8), sl8⟩) (c8 : PySem.W.codeIn K cd8 "_law_take" = true) (k8 : PySem.W.keepIn K (.ref f8) = true)
    (a9 : PySem.W.nsIn K mainGlobals "_law_words" = some (some (.ref f9))) (l9 : K.lookup f9 = some ⟨oc9, od9, .func (PySem.W.fnOf "_law_words" "_law_words" (defArgs s_words_l) (defBody s_words_l) (defScope s_words_l) .none kV9 dc9 pm9 an9 cd9 ct9), sl9⟩) (c9 : PySem.W.codeIn K cd9 "_law_words" = true) (k9 : PySem.W.keepIn K (.ref f9) = true)
    (a10 : PySem.W.nsIn K mainGlobals "_law_name" = some (some (.ref f10))) (l10 : K.lookup f10 = some ⟨oc10, od10, .func (PySem.W.fnOf "_law_name" "_law_name" (defArgs s_name_l) (defBody s_name_l) (defScope s_name_l) .none kV10 dc10 pm10 an10 cd10 ct10), sl10⟩) (c10 : PySem.W.codeIn K cd10 "_law_name" = true) (k10 : PySem.W.keepIn K (.ref f10) = true)
    (a11 : PySem.W.nsIn K mainGlobals "_law_pointed" = some (some (.ref f11))) (l11 : K.lookup f11 = some ⟨oc11, od11, .func (PySem.W.fnOf "_law_pointed" "_law_pointed" (defArgs s_pointed_l) (defBody s_pointed_l) (defScope s_pointed_l) .none kV11 dc11 pm11 an11 cd11 ct11), sl11⟩) (c11 : PySem.W.codeIn K cd11 "_law_pointed" = true) (k11 : PySem.W.keepIn K (.ref f11) = true)
    (a12 : PySem.W.nsIn K mainGlobals "_law_same" = some (some (.ref f12))) (l12 : K.lookup f12 = some ⟨oc12, od12, .func (PySem.W.fnOf "_law_same" "_law_same" (defArgs s_same_l) (defBody s_same_l) (defScope s_same_l) .none kV12 dc12 pm12 an12 cd12 ct12), sl12⟩) (c12 : PySem.W.codeIn K cd12 "_law_same" = true) (k12 : PySem.W.keepIn K (.ref f12) = true)
    (a13 : PySem.W.nsIn K mainGlobals "_law_text" = some (some (.ref f13))) (l13 : K.lookup f13 = some ⟨oc13, od13, .func (PySem.W.fnOf "_law_text" "_law_text" (defArgs s_text_l) (defBody s_text_l) (defScope s_text_l) .none kV13 dc13 pm13 an13 cd13 ct13), sl13⟩) (c13 : PySem.W.codeIn K cd13 "_law_text" = true) (k13 : PySem.W.keepIn K (.ref f13) = true)
    (a14 : PySem.W.nsIn K mainGlobals "_law_word" = some (some (.ref f14))) (l14 : K.lookup f14 = some ⟨oc14, od14, .func (PySem.W.fnOf "_law_word" "_law_word" (defArgs s_word_l) (defBody s_word_l) (defScope s_word_l) .none kV14 dc14 pm14 an14 cd14 ct14), sl14⟩) (c14 : PySem.W.codeIn K cd14 "_law_word" = true) (k14 : PySem.W.keepIn K (.ref f14) = true)
    (a15 : PySem.W.nsIn K mainGlobals "_law_points" = some (some (.ref f15))) (l15 : K.lookup f15 = some ⟨oc15, od15, .func (PySem.W.fnOf "_law_points" "_law_points" (defArgs s_points_l) (defBody s_points_l) (defScope s_points_l) .none kV15 dc15 pm15 an15 cd15 ct15), sl15⟩) (c15 : PySem.W.codeIn K cd15 "_law_points" = true) (k15 : PySem.W.keepIn K (.ref f15) = true)
    (a16 : PySem.W.nsIn K mainGlobals "_law_numbers" = some (some (.ref f16))) (l16 : K.lookup f16 = some ⟨oc16, od16, .func (PySem.W.fnOf "_law_numbers" "_law_numbers" (defArgs s_numbers_l) (defBody s_numbers_l) (defScope s_numbers_l) .none kV16 dc16 pm16 an16 cd16 ct16), sl16⟩) (c16 : PySem.W.codeIn K cd16 "_law_numbers" = true) (k16 : PySem.W.keepIn K (.ref f16) = true)
    (a17 : PySem.W.nsIn K mainGlobals "_law_near_nought" = some (some (.ref f17))) (l17 : K.lookup f17 = some ⟨oc17, od17, .func (PySem.W.fnOf "_law_near_nought" "_law_near_nought" (defArgs s_near_nought_l) (defBody s_near_nought_l) (defScope s_near_nought_l) .none kV17 dc17 pm17 an17 cd17 ct17), sl17⟩) (c17 : PySem.W.codeIn K cd17 "_law_near_nought" = true) (k17 : PySem.W.keepIn K (.ref f17) = true)
    (a18 : PySem.W.nsIn K mainGlobals "law" = some (some (.ref f18))) (l18 : K.lookup f18 = some ⟨oc18, od18, .func (PySem.W.fnOf "law" "law" (defArgs s_law) (defBody s_law) (defScope s_law) .none kV18 dc18 pm18 an18 cd18 ct18), sl18⟩) (c18 : PySem.W.codeIn K cd18 "law" = true) (k18 : PySem.W.keepIn K (.ref f18) = true)
    (n_all : PySem.W.nsIn K mainGlobals "all" = some none)
    (n_bool : PySem.W.nsIn K mainGlobals "bool" = some none)
    (n_int : PySem.W.nsIn K mainGlobals "int" = some none)
    (n_isinstance : PySem.W.nsIn K mainGlobals "isinstance" = some none)
    (n_len : PySem.W.nsIn K mainGlobals "len" = some none)
    (n_list : PySem.W.nsIn K mainGlobals "list" = some none)
    (n_max : PySem.W.nsIn K mainGlobals "max" = some none)
    (n_min : PySem.W.nsIn K mainGlobals "min" = some none)
    (n_range : PySem.W.nsIn K mainGlobals "range" = some none)
    (n_str : PySem.W.nsIn K mainGlobals "str" = some none)
    {t_LETTERS : Tok} (c_LETTERS : PySem.W.nsIn K mainGlobals "LETTERS" = some (some (.str "abcdefghijklmnopqrstuvwxyz" t_LETTERS)))
    {t_LONGEST : Tok} (c_LONGEST : PySem.W.nsIn K mainGlobals "LONGEST" = some (some (.int 8 t_LONGEST)))
    {t_MOST : Tok} (c_MOST : PySem.W.nsIn K mainGlobals "MOST" = some (some (.int 1000000000 t_MOST)))
    {t_MOST_SIGNS : Tok} (c_MOST_SIGNS : PySem.W.nsIn K mainGlobals "MOST_SIGNS" = some (some (.int 80 t_MOST_SIGNS)))
    {a_OWN : Addr} {dd_OWN : Option Addr} {its_OWN : Array Value} {n_OWN : Nat} {sl_OWN : Array (Option Value)} (c_OWN : PySem.W.nsIn K mainGlobals "OWN" = some (some (.ref a_OWN))) (l_OWN : K.lookup a_OWN = some ⟨.type "tuple", dd_OWN, .seq its_OWN n_OWN, sl_OWN⟩) (v_OWN : Vals [.str "node", .str "in", .str "out", .str "before", .str "when", .str "hold", .str "like", .str "same", .str "call", .str "true", .str "false", .str "mod", .str "beat", .str "desk"] its_OWN.toList) (z_OWN : its_OWN.size ≤ sizeLine)
    : ∃ fd : FuncData, (∀ (s : Shared) (v : Value), BindsTo s fd ⟨[v], []⟩ [("_law_script", v)]) ∧ ∀ base : Heap, K.In base → base.Ns mainGlobals mg → FnOk l.prog w K mg base CX0 5 fa fd ["_law_script"] (sp_law K) := by
  have e := hfa.symm.trans (PySem.W.mg_of X G a18)
  cases e
  have F0 := fun_mk (st := s_is_whole) l0 c0 k0
  have b0 := F0.binds (ps := ["thing"]) fun _ _ _ _ _ _ us hl => match us, hl with | [_], _ => rfl
  have F1 := fun_mk (st := s_is_within) l1 c1 k1
  have b1 := F1.binds (ps := ["thing", "low", "high"]) fun _ _ _ _ _ _ us hl => match us, hl with | [_, _, _], _ => rfl
  have F2 := fun_mk (st := s_own_words) l2 c2 k2
  have b2 := F2.binds (ps := []) fun _ _ _ _ _ _ us hl => match us, hl with | [], _ => rfl
  have F3 := fun_mk (st := s_is_name) l3 c3 k3
  have b3 := F3.binds (ps := ["thing"]) fun _ _ _ _ _ _ us hl => match us, hl with | [_], _ => rfl
  have F4 := fun_mk (st := s_is_pointed) l4 c4 k4
  have b4 := F4.binds (ps := ["thing"]) fun _ _ _ _ _ _ us hl => match us, hl with | [_], _ => rfl
  have F5 := fun_mk (st := s_is_value) l5 c5 k5
  have b5 := F5.binds (ps := ["thing"]) fun _ _ _ _ _ _ us hl => match us, hl with | [_], _ => rfl
  have F6 := fun_mk (st := s_cell_at_l) l6 c6 k6
  have b6 := F6.binds (ps := ["_law_script", "_law_k"]) fun _ _ _ _ _ _ us hl => match us, hl with | [_, _], _ => rfl
  have F7 := fun_mk (st := s_box_l) l7 c7 k7
  have b7 := F7.binds (ps := ["_law_cell"]) fun _ _ _ _ _ _ us hl => match us, hl with | [_], _ => rfl
  have F8 := fun_mk (st := s_take_l) l8 c8 k8
  have b8 := F8.binds (ps := ["_law_box_here", "_law_many"]) fun _ _ _ _ _ _ us hl => match us, hl with | [_, _], _ => rfl
  have F9 := fun_mk (st := s_words_l) l9 c9 k9
  have b9 := F9.binds (ps := []) fun _ _ _ _ _ _ us hl => match us, hl with | [], _ => rfl
  have F10 := fun_mk (st := s_name_l) l10 c10 k10
  have b10 := F10.binds (ps := ["_law_thing"]) fun _ _ _ _ _ _ us hl => match us, hl with | [_], _ => rfl
  have F11 := fun_mk (st := s_pointed_l) l11 c11 k11
  have b11 := F11.binds (ps := ["_law_thing"]) fun _ _ _ _ _ _ us hl => match us, hl with | [_], _ => rfl
  have F12 := fun_mk (st := s_same_l) l12 c12 k12
  have b12 := F12.binds (ps := ["_law_found", "_law_due"]) fun _ _ _ _ _ _ us hl => match us, hl with | [_, _], _ => rfl
  have F13 := fun_mk (st := s_text_l) l13 c13 k13
  have b13 := F13.binds (ps := ["_law_box_here"]) fun _ _ _ _ _ _ us hl => match us, hl with | [_], _ => rfl
  have F14 := fun_mk (st := s_word_l) l14 c14 k14
  have b14 := F14.binds (ps := ["_law_box_here"]) fun _ _ _ _ _ _ us hl => match us, hl with | [_], _ => rfl
  have F15 := fun_mk (st := s_points_l) l15 c15 k15
  have b15 := F15.binds (ps := ["_law_box_here"]) fun _ _ _ _ _ _ us hl => match us, hl with | [_], _ => rfl
  have F16 := fun_mk (st := s_numbers_l) l16 c16 k16
  have b16 := F16.binds (ps := ["_law_box_here"]) fun _ _ _ _ _ _ us hl => match us, hl with | [_], _ => rfl
  have F17 := fun_mk (st := s_near_nought_l) l17 c17 k17
  have b17 := F17.binds (ps := []) fun _ _ _ _ _ _ us hl => match us, hl with | [], _ => rfl
  have F18 := fun_mk (st := s_law) l18 c18 k18
  have b18 := F18.binds (ps := ["_law_script"]) fun _ _ _ _ _ _ us hl => match us, hl with | [_], _ => rfl
  have T : Txt K mg ⟨f0, _, f1, _, f2, _, f3, _, f4, _, f5, _, f6, _, f7, _, f8, _, f9, _, f10, _, f11, _, f12, _, f13, _, f14, _, f15, _, f16, _, f17, _, fa, _, a_OWN⟩ := ⟨F0, b0, PySem.W.mg_of X G a0, F1, b1, PySem.W.mg_of X G a1, F2, b2, PySem.W.mg_of X G a2, F3, b3, PySem.W.mg_of X G a3, F4, b4, PySem.W.mg_of X G a4, F5, b5, PySem.W.mg_of X G a5, F6, b6, PySem.W.mg_of X G a6, F7, b7, PySem.W.mg_of X G a7, F8, b8, PySem.W.mg_of X G a8, F9, b9, PySem.W.mg_of X G a9, F10, b10, PySem.W.mg_of X G a10, F11, b11, PySem.W.mg_of X G a11, F12, b12, PySem.W.mg_of X G a12, F13, b13, PySem.W.mg_of X G a13, F14, b14, PySem.W.mg_of X G a14, F15, b15, PySem.W.mg_of X G a15, F16, b16, PySem.W.mg_of X G a16, F17, b17, PySem.W.mg_of X G a17, F18, b18, PySem.W.mg_of X G a18, PySem.W.mg_none_of X G n_all, PySem.W.mg_none_of X G n_bool, PySem.W.mg_none_of X G n_int, PySem.W.mg_none_of X G n_isinstance, PySem.W.mg_none_of X G n_len, PySem.W.mg_none_of X G n_list, PySem.W.mg_none_of X G n_max, PySem.W.mg_none_of X G n_min, PySem.W.mg_none_of X G n_range, PySem.W.mg_none_of X G n_str, ⟨_, PySem.W.mg_of X G c_LETTERS, ⟨_, rfl⟩⟩, ⟨_, PySem.W.mg_of X G c_LONGEST, ⟨_, rfl⟩⟩, ⟨_, PySem.W.mg_of X G c_MOST, ⟨_, rfl⟩⟩, ⟨_, PySem.W.mg_of X G c_MOST_SIGNS, ⟨_, rfl⟩⟩, ⟨_, PySem.W.mg_of X G c_OWN, rfl⟩, fun H => .inr ⟨_, _, _, l_OWN, rfl, rfl, z_OWN, v_OWN⟩⟩
  exact ⟨_, fun s v => .of_eq rfl, fun base _ _ => ok_law T⟩
theorem walk {l : PySem.W.OpenLaw} {q : Program} {loose : List Str} {XP : (Str → Option Value) → Heap → Prop} {YP : World → Heap → Prop} {d : DefRec} {K : Params → PySem.W.Frag} (hn : l.most = some 63) (hdf : d.params.defaults = [])
    (hY : ∀ (w : World) (h : Heap), YP w h → (K w.params).In h)
    (F : ∀ (w : World) (mg : Str → Option Value) (fa : Addr) (h : Heap), (K w.params).In h → h.Ns mainGlobals mg → mg d.name = some (.ref fa) →
      ∃ fd : FuncData, (∀ (s : Shared) (u : Value), BindsTo s fd ⟨[u], []⟩ [("_law_script", u)]) ∧ ∀ base : Heap, (K w.params).In base → base.Ns mainGlobals mg → FnOk l.prog w (K w.params) mg base CX0 5 fa fd ["_law_script"] (sp_law (K w.params))) :
    PySem.W.WalkO q loose XP YP l.row.toRowW d [] (fun f vs => PySem.call f vs) :=
  L2.walk_of (n := 63) (k := 5) (x := "_law_script") (CX := fun _ => CX0) (sp := fun w => sp_law (K w.params)) hn (by decide) hdf ⟨rfl, by decide, by decide⟩ hY F (fun _ _ a ns hl _ hS => ⟨a, ns, rfl, hS, hl, fun _ => rfl⟩) fun _ _ _ _ _ z => z
end Toy

open PySem PySem.W PyProof.Rows in
set_option maxRecDepth 100000 in
set_option maxHeartbeats 0 in
theorem PySem.Challenge.cw_beatrows_k11_words_told_holds : PySem.Challenge.rw_beatrows_k11_words_told.Holds := by
  w_on; o_law; k_head; (case hw => w_witness2)
  k_fill
  refine Toy.walk (l := PySem.Challenge.rw_beatrows_k11_words_told) rfl rfl (fun w h Y => PySem.W.kIn_of Y) ?F
  case F =>
    intro w mg fa h KX G hmg
    refine' Toy.all_mk KX G hmg ?a0 ?l0 ?c0 ?k0 ?a1 ?l1 ?c1 ?k1 ?a2 ?l2 ?c2 ?k2 ?a3 ?l3 ?c3 ?k3 ?a4 ?l4 ?c4 ?k4 ?a5 ?l5 ?c5 ?k5 ?a6 ?l6 ?c6 ?k6 ?a7 ?l7 ?c7 ?k7 ?a8 ?l8 ?c8 ?k8 ?a9 ?l9 ?c9 ?k9 ?a10 ?l10 ?c10 ?k10 ?a11 ?l11 ?c11 ?k11 ?a12 ?l12 ?c12 ?k12 ?a13 ?l13 ?c13 ?k13 ?a14 ?l14 ?c14 ?k14 ?a15 ?l15 ?c15 ?k15 ?a16 ?l16 ?c16 ?k16 ?a17 ?l17 ?c17 ?k17 ?a18 ?l18 ?c18 ?k18 ?n_all ?n_bool ?n_int ?n_isinstance ?n_len ?n_list ?n_max ?n_min ?n_range ?n_str ?c_LETTERS ?c_LONGEST ?c_MOST ?c_MOST_SIGNS ?c_OWN ?l_OWN ?v_OWN ?z_OWN
    (case a0 => k_is)
    (case l0 => k_is)
    (case c0 => k_is)
    (case k0 => k_is)
    (case a1 => k_is)
    (case l1 => k_is)
    (case c1 => k_is)
    (case k1 => k_is)
    (case a2 => k_is)
    (case l2 => k_is)
    (case c2 => k_is)
    (case k2 => k_is)
    (case a3 => k_is)
    (case l3 => k_is)
    (case c3 => k_is)
    (case k3 => k_is)
    (case a4 => k_is)
    (case l4 => k_is)
    (case c4 => k_is)
    (case k4 => k_is)
    (case a5 => k_is)
    (case l5 => k_is)
    (case c5 => k_is)
    (case k5 => k_is)
    (case a6 => k_is)
    (case l6 => k_is)
    (case c6 => k_is)
    (case k6 => k_is)
    (case a7 => k_is)
    (case l7 => k_is)
    (case c7 => k_is)
    (case k7 => k_is)
    (case a8 => k_is)
    (case l8 => k_is)
    (case c8 => k_is)
    (case k8 => k_is)
    (case a9 => k_is)
    (case l9 => k_is)
    (case c9 => k_is)
    (case k9 => k_is)
    (case a10 => k_is)
    (case l10 => k_is)
    (case c10 => k_is)
    (case k10 => k_is)
    (case a11 => k_is)
    (case l11 => k_is)
    (case c11 => k_is)
    (case k11 => k_is)
    (case a12 => k_is)
    (case l12 => k_is)
    (case c12 => k_is)
    (case k12 => k_is)
    (case a13 => k_is)
    (case l13 => k_is)
    (case c13 => k_is)
    (case k13 => k_is)
    (case a14 => k_is)
    (case l14 => k_is)
    (case c14 => k_is)
    (case k14 => k_is)
    (case a15 => k_is)
    (case l15 => k_is)
    (case c15 => k_is)
    (case k15 => k_is)
    (case a16 => k_is)
    (case l16 => k_is)
    (case c16 => k_is)
    (case k16 => k_is)
    (case a17 => k_is)
    (case l17 => k_is)
    (case c17 => k_is)
    (case k17 => k_is)
    (case a18 => k_is)
    (case l18 => k_is)
    (case c18 => k_is)
    (case k18 => k_is)
    (case n_all => k_is)
    (case n_bool => k_is)
    (case n_int => k_is)
    (case n_isinstance => k_is)
    (case n_len => k_is)
    (case n_list => k_is)
    (case n_max => k_is)
    (case n_min => k_is)
    (case n_range => k_is)
    (case n_str => k_is)
    (case c_LETTERS => k_is)
    (case c_LONGEST => k_is)
    (case c_MOST => k_is)
    (case c_MOST_SIGNS => k_is)
    (case c_OWN => k_is)
    (case l_OWN => k_is)
    (case v_OWN => exact .cons ⟨_, rfl⟩ (.cons ⟨_, rfl⟩ (.cons ⟨_, rfl⟩ (.cons ⟨_, rfl⟩ (.cons ⟨_, rfl⟩ (.cons ⟨_, rfl⟩ (.cons ⟨_, rfl⟩ (.cons ⟨_, rfl⟩ (.cons ⟨_, rfl⟩ (.cons ⟨_, rfl⟩ (.cons ⟨_, rfl⟩ (.cons ⟨_, rfl⟩ (.cons ⟨_, rfl⟩ (.cons ⟨_, rfl⟩ (.nil)))))))))))))))
    (case z_OWN => decide)
