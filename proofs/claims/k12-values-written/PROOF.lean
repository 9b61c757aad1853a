import PyProof.Rows.All
import Wide.All
import OpenK.AllK
import Wide.FinOn
import HandS.ForMost
import HandS.IsInst
import HandS.Flow
import HandS.Evl
import HandS.Walk
import HandS.Replace
import KE.IntTextLaws
import PySem.Challenge.RW_beatrows_k12_values_written
set_option Elab.async false
set_option linter.all false
set_option maxRecDepth 100000
set_option maxHeartbeats 4000000
/-! ### own small rules -/
namespace L2
open PySem PySem.Spec PyProof.Rows
section
variable {X : Cx}
theorem pe_gcst {x : Str} {v : V} {pos : Pos} (hg : Gl X x) (h : ∃ u, X.mg x = some u ∧ RelV v u) (hd : (x == ("__debug__" : Str)) = false := by decide) : PE X (.Name x pos) (tC v) :=
  let ⟨_, hm, r⟩ := h
  pe_glob hg hm r hd
/-- divmod by any divisor but nought, below 2^30 -/
theorem call_divmodN : CallR X (.builtin "divmod") (fun xs H Q => ∃ i j : Int, xs = [.int i, .int j] ∧ CDivN i j ∧ ∀ p, H p = none → Q (.ref p) (upd H p (.tup [.int (i.fdiv j), .int (i.fmod j)]))) := by
  intro pins s σ H xs us Q I r h
  obtain ⟨i, j, rfl, ⟨h1, h2⟩, q⟩ := h
  obtain ⟨u, w', rfl, ⟨t, rfl⟩, ⟨t', rfl⟩⟩ := vals2 r
  refine divmod_int h1 ?_ (.inl (PyProof.noPylong_small h2))
  have hn := I.hok.fresh (Nat.le_refl s.heap.objs.size)
  refine ⟨.ref s.heap.objs.size, upd H s.heap.objs.size (.tup [.int (i.fdiv j), .int (i.fmod j)]), ?_, rfl, q _ hn⟩
  refine I.laid (fun b o e => Heap.get?_push_of_some _ e) (Nat.le_refl _) ?_
  refine ⟨by show 2 ≤ sizeLine; decide, [.int (i.fdiv j) s.toks, .int (i.fmod j) (s.toks + 1)], ?_, ?_⟩
  · exact .cons ⟨_, rfl⟩ (.cons ⟨_, rfl⟩ .nil)
  · exact ⟨_, Heap.get?_push_size s.heap rfl, rfl, 0, rfl⟩
end
/-- a new tuple, a new list of these, all else kept -/
def RetT (xs : List V) (H : Hp) (Q : VK) : Prop := ∀ p H2, H p = none → Evl.Ex H H2 → H2 p = some (.tup xs) → Q (.ref p) H2
def RetL (xs : List V) (H : Hp) (Q : VK) : Prop := ∀ p H2, H p = none → Evl.Ex H H2 → H2 p = some (.lst xs) → Q (.ref p) H2
def RetV (v : V) (H : Hp) (Q : VK) : Prop := ∀ H2, Evl.Ex H H2 → Q v H2
theorem RetT.up {xs : List V} {H0 H : Hp} {Q : VK} (k : RetT xs H0 Q) (e : Evl.Ex H0 H) : RetT xs H Q := fun p H2 hp e2 h2 => k p H2 (Evl.fresh_back e hp) (e.trans e2) h2
theorem RetL.up {xs : List V} {H0 H : Hp} {Q : VK} (k : RetL xs H0 Q) (e : Evl.Ex H0 H) : RetL xs H Q := fun p H2 hp e2 h2 => k p H2 (Evl.fresh_back e hp) (e.trans e2) h2
theorem RetV.up {v : V} {H0 H : Hp} {Q : VK} (k : RetV v H0 Q) (e : Evl.Ex H0 H) : RetV v H Q := fun H2 e2 => k H2 (e.trans e2)
def NewT (xs : List V) (H : Hp) (Q : VK) : Prop := xs.length ≤ sizeLine ∧ ∀ p, H p = none → Q (.ref p) (upd H p (.tup xs))
def NewL (xs : List V) (H : Hp) (Q : VK) : Prop := xs.length ≤ sizeLine ∧ ∀ p, H p = none → Q (.ref p) (upd H p (.lst xs))
theorem newT {xs : List V} {H : Hp} {Q : VK} (k : RetT xs H Q) (hz : xs.length ≤ 100000 := by exact Nat.le_of_ble_eq_true rfl) : NewT xs H Q := ⟨Evl.sz_of hz, fun p hp => k p _ hp (Evl.Ex.new hp) upd_same⟩
theorem newL {xs : List V} {H : Hp} {Q : VK} (k : RetL xs H Q) (hz : xs.length ≤ 100000 := by exact Nat.le_of_ble_eq_true rfl) : NewL xs H Q := ⟨Evl.sz_of hz, fun p hp => k p _ hp (Evl.Ex.new hp) upd_same⟩
theorem if_tt {c : Bool} {A B : Prop} (hc : c = true) (h : A) : if c = true then A else B := by rw [if_pos hc]; exact h
theorem if_ff {c : Bool} {A B : Prop} (hc : c = false) (h : B) : if c = true then A else B := by rw [hc]; exact iteF h
theorem if_nt {A B : Prop} (h : B) : if (!true) = true then A else B := iteF h
theorem if_nf {A B : Prop} (h : A) : if (!false) = true then A else B := iteT h
theorem if_cs {c : Bool} {A B : Prop} (h1 : c = true → A) (h2 : c = false → B) : if c = true then A else B := by
  cases c with
  | true => exact iteT (h1 rfl)
  | false => exact iteF (h2 rfl)
theorem kb_ii : kitB "int" "int" = some true := by decide +kernel
theorem kb_bi : kitB "bool" "int" = some true := by decide +kernel
theorem kb_ib : kitB "int" "bool" = some false := by decide +kernel
theorem kb_bb : kitB "bool" "bool" = some true := by decide +kernel
theorem ty_int {K : PySem.W.Frag} {H : Hp} (i : Int) : TyX K H (.int i) (.type "int") := .base (.int i)
theorem ty_bl {K : PySem.W.Frag} {H : Hp} (b : Bool) : TyX K H (.bl b) (.type "bool") := .base (.bl b)
theorem ty_str {K : PySem.W.Frag} {H : Hp} (b : Str) : TyX K H (.str b) (.type "str") := .base (.str b)
theorem ty_non {K : PySem.W.Frag} {H : Hp} : TyX K H .non (.type "NoneType") := .base .non
theorem ty_tup {K : PySem.W.Frag} {H : Hp} {a : Addr} {xs : List V} (h : H a = some (.tup xs)) : TyX K H (.ref a) (.type "tuple") := .base (.tup h)
theorem ty_lst {K : PySem.W.Frag} {H : Hp} {a : Addr} {xs : List V} (h : H a = some (.lst xs)) : TyX K H (.ref a) (.type "list") := .base (.lst h)
/-- isinstance of a thing of a built-in type -/
theorem isi {K : PySem.W.Frag} {H : Hp} {Q : VK} {x : V} {a b : String} {r : Bool} (h : TyX K H x (.type a)) (e : kitB a b = some r) (q : Q (.bl r) H) : rIsi K [x, .ty b] H Q :=
  ⟨x, .ty b, .type a, .type b, r, rfl, .ty b, h, kit_ty e, q⟩
end L2

/-! ### readings, one step each (the goal's head tells which) -/
namespace L2
open PySem PySem.Spec PyProof.Rows
section
variable {K : PySem.W.Frag} {σ : St} {H : Hp} {Q : VK} {B : Bool → Hp → Prop} {ta tb tc te : TE} {t u : TT} {tA : TA} {D : Ends} {s1 s2 : TS} {g : TG} {gs : TGs} {v : V} {r : R2}
theorem c_var {i : Nat} (h : σ[i]? = some (some v)) (q : Q v H) : tVar i σ H Q := ⟨v, h, q⟩
theorem c_c (q : Q v H) : tC v σ H Q := q
theorem c_op (h : ta σ H fun x H1 => tb σ H1 fun y H2 => r x y H2 Q) : tOp r ta tb σ H Q := h
theorem c_un {f : V → Hp → VK → Prop} (h : ta σ H fun x H1 => f x H1 Q) : tUn f ta σ H Q := h
theorem c_test (h : te σ H fun x H1 => ∃ k, x = .bl k ∧ B k H1) : tTest te σ H B := h
theorem c_b (h : te σ H fun x H1 => ∃ k, x = .bl k ∧ B k H1) : tB te σ H B := h
theorem c_and (h : t σ H fun c H1 => if c = true then u σ H1 B else B false H1) : tAnd t u σ H B := h
theorem c_or (h : t σ H fun c H1 => if c = true then B true H1 else u σ H1 B) : tOr t u σ H B := h
theorem c_not (h : t σ H fun c H1 => B (!c) H1) : tNot t σ H B := h
theorem c_andV (h : ta σ H fun x H1 => ∃ c, x = .bl c ∧ if c = true then tb σ H1 Q else Q (.bl false) H1) : tAndV ta tb σ H Q := h
theorem c_orV (h : ta σ H fun x H1 => ∃ c, x = .bl c ∧ if c = true then Q (.bl true) H1 else tb σ H1 Q) : tOrV ta tb σ H Q := h
theorem c_notV (h : ta σ H fun x H1 => ∃ c, x = .bl c ∧ Q (.bl (!c)) H1) : tNotV ta σ H Q := h
theorem c_if (h : t σ H fun c H1 => if c = true then ta σ H1 Q else tb σ H1 Q) : tIf t ta tb σ H Q := h
theorem c_orT (h : ta σ H fun x H1 => ∃ k, TruV K x H1 k ∧ if k = true then Q x H1 else tb σ H1 Q) : tOrT K ta tb σ H Q := h
theorem c_andT (h : ta σ H fun x H1 => ∃ k, TruV K x H1 k ∧ if k = true then tb σ H1 Q else Q x H1) : tAndT K ta tb σ H Q := h
theorem c_notT (h : ta σ H fun x H1 => ∃ k, TruV K x H1 k ∧ Q (.bl (!k)) H1) : tNotT K ta σ H Q := h
theorem c_yes (h : B true H) : tYes σ H B := h
theorem c_nil {q : List V → Hp → Prop} (h : q [] H) : tNil σ H q := h
theorem c_cons {q : List V → Hp → Prop} (h : ta σ H fun x H1 => tA σ H1 fun xs H2 => q (x :: xs) H2) : tCons ta tA σ H q := h
theorem c_tup (h : tA σ H fun xs H1 => NewT xs H1 Q) : tTup tA σ H Q := h
theorem c_lst (h : tA σ H fun xs H1 => NewL xs H1 Q) : tLst tA σ H Q := h
theorem c_call {sp : Sp} {E : XK} (h : tA σ H fun vs H1 => sp vs H1 Q E) : tCall sp [] E tA σ H Q := by
  show tA σ H fun vs H1 => sp (vs ++ []) H1 Q E
  simp only [List.append_nil]
  exact h
theorem c_cb {f : List V → Hp → VK → Prop} (h : tA σ H fun vs H1 => f vs H1 Q) : tCB f tA σ H Q := h
theorem c_sl {f : V → Option Int → Option Int → Hp → VK → Prop} {tl th : TO} (h : te σ H fun x H1 => tl σ H1 fun l H2 => th σ H2 fun u H3 => f x l u H3 Q) : tSl f te tl th σ H Q := h
theorem c_noPart {q : Option Int → Hp → Prop} (h : q none H) : tNoPart σ H q := h
theorem c_part {q : Option Int → Hp → Prop} (h : te σ H fun x H1 => ∃ i, x = .int i ∧ q (some i) H1) : tPart te σ H q := h
theorem c_bm {T : String} {f : V → List V → Hp → VK → Prop} (h : te σ H fun x H1 => tyV K T x H1 ∧ tA σ H1 fun xs H2 => f x xs H2 Q) : tBM K T f te tA σ H Q := h
theorem c_bm0 {T : String} {f : V → List V → Hp → VK → Prop} (h : te σ H fun x H1 => tyV K T x H1 ∧ f x [] H1 Q) : tBM0 K T f te σ H Q := h
theorem c_m0 {f : V → List V → Hp → VK → Prop} (h : te σ H fun x H1 => (∃ a, x = .str a) ∧ f x [] H1 Q) : tM0 f te σ H Q := h
theorem c_m1 {f : V → List V → Hp → VK → Prop} (h : ta σ H fun x H1 => (∃ a, x = .str a) ∧ tb σ H1 fun y H2 => f x [y] H2 Q) : tM1 f ta tb σ H Q := h
theorem c_chain {r' : R2} (h : ta σ H fun x H1 => tb σ H1 fun y H2 => r x y H2 fun z H3 => ∃ k, z = .bl k ∧ (if k = true then tc σ H3 fun w' H4 => r' y w' H4 Q else Q (.bl false) H3)) : tChain r r' ta tb tc σ H Q := h
/-! statements -/
theorem c_next (h : D.nx σ H) : tNext D σ H := h
theorem c_seq (h : s1 { D with nx := s2 D } σ H) : tSeq s1 s2 D σ H := h
theorem c_asg (h : te σ H fun x H1 => g x σ H1 D.nx) : tAsg te g D σ H := h
theorem c_ret (h : te σ H D.rt) : tRet te D σ H := h
theorem c_retN (h : D.rt .non H) : tRetN D σ H := h
theorem c_ifS (h : t σ H fun b H1 => if b = true then s1 D σ H1 else s2 D σ H1) : tIfS t s1 s2 D σ H := h
theorem c_drop (h : te σ H fun _ H1 => D.nx σ H1) : tDrop te D σ H := h
theorem c_break (h : D.bk σ H) : tBreak D σ H := h
theorem c_cont (h : D.ct σ H) : tCont D σ H := h
theorem c_nx {nx : St → Hp → Prop} {rt : VK} {bk ct : St → Hp → Prop} (h : nx σ H) : Ends.nx ⟨nx, rt, bk, ct⟩ σ H := h
theorem c_rt {nx : St → Hp → Prop} {rt : VK} {bk ct : St → Hp → Prop} (h : rt v H) : Ends.rt ⟨nx, rt, bk, ct⟩ v H := h
theorem c_bk {nx : St → Hp → Prop} {rt : VK} {bk ct : St → Hp → Prop} (h : bk σ H) : Ends.bk ⟨nx, rt, bk, ct⟩ σ H := h
theorem c_ct {nx : St → Hp → Prop} {rt : VK} {bk ct : St → Hp → Prop} (h : ct σ H) : Ends.ct ⟨nx, rt, bk, ct⟩ σ H := h
theorem c_gName {i : Nat} {q : St → Hp → Prop} (h : q (σ.set i (some v)) H) : gName i v σ H q := h
theorem c_gTup {n : Nat} {a : Addr} {xs : List V} {q : St → Hp → Prop} (hs : SqT K H a xs) (hl : xs.length = n) (h : gs xs σ H q) : gTup K n gs (.ref a) σ H q := ⟨a, xs, rfl, hs, hl, h⟩
theorem c_gCons {vs : List V} {q : St → Hp → Prop} (h : g v σ H fun σ' H' => gs vs σ' H' q) : gCons g gs (v :: vs) σ H q := ⟨v, vs, rfl, h⟩
theorem c_gNil {q : St → Hp → Prop} (h : q σ H) : gNil [] σ H q := ⟨rfl, h⟩
theorem c_gSub {to ti : TE} {f : TSet} {q : St → Hp → Prop} (h : to σ H fun o H1 => ti σ H1 fun i H2 => f o i v H2 fun H3 => q σ H3) : gSub to ti f v σ H q := h
theorem c_cut {M : St → Hp → Prop} (h : s1 { D with nx := M } σ H) (k : ∀ σ' H', M σ' H' → s2 D σ' H') : Evl.tCut s1 s2 D σ H := ⟨M, h, k⟩
/-! operations on values -/
theorem c_I0 {f : Int → Int → V} {i j : Int} (q : Q (f i j) H) : rI0 f (.int i) (.int j) H Q := ⟨i, j, rfl, rfl, q⟩
theorem c_I {C : Int → Int → Prop} {f : Int → Int → V} {i j : Int} (hc : C i j) (q : Q (f i j) H) : rI C f (.int i) (.int j) H Q := ⟨i, j, rfl, rfl, hc, q⟩
theorem c_U {f : Int → V} {i : Int} (q : Q (f i) H) : rU f (.int i) H Q := ⟨i, rfl, q⟩
theorem c_eq {x y : V} (h : scal x y = true) (q : Q (.bl (decide (x = y))) H) : rEq x y H Q := ⟨h, q⟩
theorem c_ne {x y : V} (h : scal x y = true) (q : Q (.bl (!decide (x = y))) H) : rNe x y H Q := ⟨h, q⟩
theorem c_ixL {p : Addr} {xs : List V} {i : Int} (h : SqL K H p xs) (ha : atI xs i = some v) (q : Q v H) : rIxL K (.ref p) (.int i) H Q := ⟨p, xs, i, v, rfl, rfl, h, ha, q⟩
theorem c_ixT {p : Addr} {xs : List V} {i : Int} (h : SqT K H p xs) (ha : atI xs i = some v) (q : Q v H) : rIxT K (.ref p) (.int i) H Q := ⟨p, xs, i, v, rfl, rfl, h, ha, q⟩
theorem c_setL {p : Addr} {xs : List V} {k : Int} {j : Nat} {q : Hp → Prop} (h : H p = some (.lst xs)) (hj : ixN xs.length k = some j) (h2 : q (upd H p (.lst (xs.set j v)))) : rSetL (.ref p) (.int k) v H q := ⟨p, xs, k, j, rfl, rfl, h, hj, h2⟩
theorem c_in {x : V} {p : Addr} {xs : List V} (h : SqL K H p xs ∨ SqT K H p xs) (hx : flatV x = true) (ha : xs.all flatV = true) (q : Q (.bl (inV x xs)) H) : rIn K false x (.ref p) H Q := ⟨p, xs, rfl, h, hx, ha, q⟩
theorem c_notin {x : V} {p : Addr} {xs : List V} (h : SqL K H p xs ∨ SqT K H p xs) (hx : flatV x = true) (ha : xs.all flatV = true) (q : Q (.bl (!inV x xs)) H) : rIn K true x (.ref p) H Q := ⟨p, xs, rfl, h, hx, ha, q⟩
theorem c_cat {l b : Addr} {xs zs : List V} (h : H l = some (.lst xs)) (h' : H b = some (.lst zs)) (k : RetL (xs ++ zs) H Q) (hz : xs.length + zs.length ≤ 100000 := by exact Nat.le_of_ble_eq_true rfl) : rCat (.ref l) (.ref b) H Q :=
  ⟨l, b, xs, zs, rfl, rfl, h, h', Evl.sz_of hz, fun p hp => k p _ hp (Evl.Ex.new hp) upd_same⟩
end
end L2

/-! ### == of tuples and lists of flat things -/
namespace L2
open PySem PySem.Spec PyProof.Rows
def dOf : V → PyData
  | .non => .none
  | .bl b => .bool b
  | .int i => .int i
  | .str x => .str x
  | _ => .none
/-- flat, its signs within the line -/
def okV : V → Bool
  | .non => true
  | .bl _ => true
  | .int _ => true
  | .str x => PyData.strOk x
  | _ => false
theorem okV_flat {v : V} (h : okV v = true) : flatV v = true := by
  cases v <;> first | rfl | exact absurd h Bool.false_ne_true
theorem okL_flat {xs : List V} (h : xs.all okV = true) : xs.all flatV = true := by
  rw [List.all_eq_true] at h ⊢
  exact fun x hx => okV_flat (h x hx)
def eqL : List V → List V → Bool
  | [], [] => true
  | x :: xs, y :: ys => eqV x y && eqL xs ys
  | _, _ => false
theorem dp_flat {K : PySem.W.Frag} {H : Hp} {v : V} (h : flatV v = true) : Dp K H v (dOf v) := by
  cases v with
  | non => exact .non
  | bl b => exact .bl b
  | int i => exact .int i
  | str x => exact .str x
  | _ => exact absurd h Bool.false_ne_true
theorem dpAll_flat {K : PySem.W.Frag} {H : Hp} : ∀ {xs : List V}, xs.all flatV = true → DpAll K H xs (xs.map dOf)
  | [], _ => .nil
  | x :: xs, h => by
    rw [List.all_cons, Bool.and_eq_true] at h
    exact .cons (dp_flat h.1) (dpAll_flat h.2)
theorem eqv_flat {a b : V} (ha : flatV a = true) (hb : flatV b = true) : PyData.eqv (dOf a) (dOf b) = eqV a b := by
  cases a <;> first | exact absurd ha Bool.false_ne_true | (cases b <;> first | exact absurd hb Bool.false_ne_true | simp [dOf, PyData.eqv, eqV])
theorem eqvAll_flat : ∀ {xs ys : List V}, xs.all flatV = true → ys.all flatV = true → PyData.eqvAll (xs.map dOf) (ys.map dOf) = eqL xs ys
  | [], [], _, _ => by simp [PyData.eqvAll, eqL]
  | [], _ :: _, _, _ => by simp [PyData.eqvAll, eqL]
  | _ :: _, [], _, _ => by simp [PyData.eqvAll, eqL]
  | x :: xs, y :: ys, h, h' => by
    rw [List.all_cons, Bool.and_eq_true] at h h'
    rw [List.map_cons, List.map_cons, PyData.eqvAll, eqv_flat h.1 h'.1, eqvAll_flat h.2 h'.2] <;> rfl
theorem flat_lay {v : V} (ho : okV v = true) : (dOf v).canLay0 = true ∧ (dOf v).depth ≤ 1 := by
  cases v <;> first | exact absurd ho Bool.false_ne_true | (simp [okV] at ho; simp [dOf, PyData.canLay0, PyData.depth, ho]) | simp [dOf, PyData.canLay0, PyData.depth]
theorem flat_layAll : ∀ {xs : List V}, xs.all okV = true → PyData.canLayAll0 (xs.map dOf) = true ∧ PyData.depthAll (xs.map dOf) ≤ 1
  | [], _ => by simp [PyData.canLayAll0, PyData.depthAll]
  | x :: xs, ho => by
    rw [List.all_cons, Bool.and_eq_true] at ho
    have h := flat_lay (v := x) ho.1
    have h2 := flat_layAll (xs := xs) ho.2
    rw [List.map_cons, PyData.canLayAll0, PyData.depthAll, h.1, h2.1]
    refine ⟨rfl, ?_⟩
    have := h.2
    have := h2.2
    omega
theorem shaped_tup {xs : List V} (ho : xs.all okV = true) : SeqAt.shaped (.tuple (xs.map dOf)) = true := by
  have h := flat_layAll (xs := xs) ho
  have h2 := h.2
  unfold SeqAt.shaped
  rw [PyData.canLay0, PyData.depth, h.1, Bool.true_and, decide_eq_true_eq]
  omega
theorem shaped_lst {xs : List V} (ho : xs.all okV = true) : SeqAt.shaped (.list (xs.map dOf)) = true := by
  have h := flat_layAll (xs := xs) ho
  have h2 := h.2
  unfold SeqAt.shaped
  rw [PyData.canLay0, PyData.depth, h.1, Bool.true_and, decide_eq_true_eq]
  omega
section
variable {K : PySem.W.Frag} {H : Hp} {Q : VK} {p q : Addr} {xs ys : List V}
theorem c_eqT (h : SqT K H p xs) (h' : SqT K H q ys) (f : xs.all okV = true) (f' : ys.all okV = true) (k : Q (.bl (eqL xs ys)) H) : rEqD K (.ref p) (.ref q) H Q :=
  ⟨_, _, .tup h (dpAll_flat (okL_flat f)), .tup h' (dpAll_flat (okL_flat f')), shaped_tup f, shaped_tup f', by rw [PyData.eqv, eqvAll_flat (okL_flat f) (okL_flat f')]; exact k⟩
theorem c_neT (h : SqT K H p xs) (h' : SqT K H q ys) (f : xs.all okV = true) (f' : ys.all okV = true) (k : Q (.bl (!eqL xs ys)) H) : rNeD K (.ref p) (.ref q) H Q :=
  ⟨_, _, .tup h (dpAll_flat (okL_flat f)), .tup h' (dpAll_flat (okL_flat f')), shaped_tup f, shaped_tup f', by rw [PyData.eqv, eqvAll_flat (okL_flat f) (okL_flat f')]; exact k⟩
theorem c_eqLs (h : SqL K H p xs) (h' : SqL K H q ys) (f : xs.all okV = true) (f' : ys.all okV = true) (k : Q (.bl (eqL xs ys)) H) : rEqD K (.ref p) (.ref q) H Q :=
  ⟨_, _, .lst h (dpAll_flat (okL_flat f)), .lst h' (dpAll_flat (okL_flat f')), shaped_lst f, shaped_lst f', by rw [PyData.eqv, eqvAll_flat (okL_flat f) (okL_flat f')]; exact k⟩
theorem c_neLs (h : SqL K H p xs) (h' : SqL K H q ys) (f : xs.all okV = true) (f' : ys.all okV = true) (k : Q (.bl (!eqL xs ys)) H) : rNeD K (.ref p) (.ref q) H Q :=
  ⟨_, _, .lst h (dpAll_flat (okL_flat f)), .lst h' (dpAll_flat (okL_flat f')), shaped_lst f, shaped_lst f', by rw [PyData.eqv, eqvAll_flat (okL_flat f) (okL_flat f')]; exact k⟩
theorem eqV_refl {v : V} (h : flatV v = true) : eqV v v = true := by
  cases v <;> first | exact absurd h Bool.false_ne_true | simp [eqV]
theorem eqL_refl : ∀ {xs : List V}, xs.all flatV = true → eqL xs xs = true
  | [], _ => rfl
  | x :: xs, h => by
    rw [List.all_cons, Bool.and_eq_true] at h
    rw [eqL, eqV_refl h.1, eqL_refl h.2] <;> rfl
end
/-! ### the law's box -/
def BoxAt (H : Hp) (b : Addr) : Prop := ∃ x y z : Int, 0 ≤ x ∧ H b = some (.lst [.int x, .int y, .int z])
/-- all but b is kept -/
def ExB (b : Addr) (H H' : Hp) : Prop := ∀ a o, a ≠ b → H a = some o → H' a = some o
theorem ExB.refl (b : Addr) (H : Hp) : ExB b H H := fun _ _ _ h => h
theorem ExB.trans {b : Addr} {H H1 H2 : Hp} (e : ExB b H H1) (e2 : ExB b H1 H2) : ExB b H H2 := fun a o n h => e2 a o n (e a o n h)
theorem ExB.ex {b : Addr} {H H1 H2 : Hp} (e : ExB b H H1) (e2 : Evl.Ex H1 H2) : ExB b H H2 := fun a o n h => e2 a o (e a o n h)
theorem ExB.of {b : Addr} {H H1 : Hp} (e : Evl.Ex H H1) : ExB b H H1 := fun a o _ h => e a o h
theorem ExB.upd {b : Addr} {H : Hp} {o : HO} : ExB b H (upd H b o) := fun a u n h => by rw [upd_ne n]; exact h
theorem BoxAt.ex {H H' : Hp} {b : Addr} (h : BoxAt H b) (e : Evl.Ex H H') : BoxAt H' b := let ⟨x, y, z, p, q⟩ := h; ⟨x, y, z, p, e _ _ q⟩
/-- what did not stand before b was made is kept through ExB b -/
theorem ExB.tot {b : Addr} {H0 H H' : Hp} (e : Evl.Ex H0 H) (n : H0 b = none) (e2 : ExB b H H') : Evl.Ex H0 H' := fun a o h => e2 a o (ne_of_none h n) (e a o h)
theorem ExB.lst {K : PySem.W.Frag} {b a : Addr} {H H' : Hp} {xs : List V} (e : ExB b H H') (n : a ≠ b) (h : SqL K H a xs) : SqL K H' a xs := by
  rcases h with (h | ⟨o, h⟩) | h
  · exact .inl (.inl (e _ _ n h))
  · exact .inl (.inr ⟨o, e _ _ n h⟩)
  · exact .inr h
end L2
namespace L2
open PySem PySem.Spec PyProof.Rows
theorem shaped_flat {v : V} (h : okV v = true) : SeqAt.shaped (dOf v) = true := by
  have q := flat_lay h
  unfold SeqAt.shaped
  rw [q.1, Bool.true_and, decide_eq_true_eq]
  have := q.2
  omega
theorem c_eqF {K : PySem.W.Frag} {H : Hp} {Q : VK} {x y : V} (f : okV x = true) (f' : okV y = true) (k : Q (.bl (eqV x y)) H) : rEqD K x y H Q :=
  ⟨_, _, dp_flat (okV_flat f), dp_flat (okV_flat f'), shaped_flat f, shaped_flat f', by rw [eqv_flat (okV_flat f) (okV_flat f')]; exact k⟩
theorem c_neF {K : PySem.W.Frag} {H : Hp} {Q : VK} {x y : V} (f : okV x = true) (f' : okV y = true) (k : Q (.bl (!eqV x y)) H) : rNeD K x y H Q :=
  ⟨_, _, dp_flat (okV_flat f), dp_flat (okV_flat f'), shaped_flat f, shaped_flat f', by rw [eqv_flat (okV_flat f) (okV_flat f')]; exact k⟩
end L2
namespace L2
open PySem PySem.Spec PyProof.Rows
theorem dec_s {x y : Str} : decide (V.str x = V.str y) = decide (x = y) := by
  by_cases h : x = y
  · subst h; simp
  · rw [decide_eq_false h, decide_eq_false fun e => h (V.str.inj e)]
theorem str_ne {x y : Str} (h : x ≠ y) : decide (V.str x = V.str y) = false := by rw [dec_s]; exact decide_eq_false h
theorem str_eq {x y : Str} (h : x = y) : decide (V.str x = V.str y) = true := by rw [dec_s]; exact decide_eq_true h
end L2

/-! ### list.count of flat things -/
namespace L2
open PySem PySem.Spec PyProof.Rows
theorem countP_eqU {x : V} : ∀ {xs : List V} {us : List Value}, Vals xs us → xs.all flatV = true → us.countP (eqU x) = xs.countP fun y => eqV y x
  | _, _, .nil, _ => rfl
  | y :: xs, u :: us, .cons r t, h => by
    rw [List.all_cons, Bool.and_eq_true] at h
    rw [List.countP_cons, List.countP_cons, countP_eqU t h.2, eqU_of r h.1]
def rCntF (K : PySem.W.Frag) : V → List V → Hp → VK → Prop := fun x xs H Q => ∃ (p : Addr) (ys : List V) (y : V), x = .ref p ∧ xs = [y] ∧ SqL K H p ys ∧ flatV y = true ∧ ys.all flatV = true ∧ Q (.int ((ys.countP fun z => eqV z y : Nat) : Int)) H
theorem mt_countF {X : Cx} : MtR X "list.count" (rCntF X.K) := by
  intro pins s σ H x xs v us Q I rx rxs h
  obtain ⟨p, ys, y, rfl, rfl, hs, fy, fl, q⟩ := h
  cases rx
  obtain ⟨u, rfl, ru⟩ := rxs.one
  obtain ⟨its, rv, ⟨⟨cls, dd, data, sl⟩, n, ho, hc, hdn, hd⟩, hlen⟩ := I.list hs
  simp only at hc hd
  subst hc hd
  have ec : its.toArray.toList.countP (eqU y) = ys.countP fun z => eqV z y := countP_eqU rv fl
  refine call_meets PySem.F.slot_list_count ⟨_, ho, rfl⟩ PySem.F.entry_list_count (PySem.F.args_list_count_2 _ _)
    (SeqAt.list_countAt p its.toArray n dd sl u (eqU y)) ⟨ho, fun z hz => mem_eqAt ru fy rv fl z (by simpa using hz), ?_⟩
  refine ⟨.int ((ys.countP fun z => eqV z y : Nat) : Int), H, I.tok _, ⟨s.toks, ?_⟩, q⟩
  rw [ec]
end L2

/-! ### a list comprehension whose element and test are told by the turn -/
namespace L2
open PySem PySem.Spec PyProof.Rows
theorem range_fm {f : Nat → Option V} {n : Nat} : (List.range (n + 1)).filterMap f = (List.range n).filterMap f ++ (f n).toList := by
  rw [List.range_succ, List.filterMap_append]
  cases h : f n <;> simp [List.filterMap_cons, h]
theorem fm_len {f : Nat → Option V} {n : Nat} : ((List.range n).filterMap f).length ≤ n := by
  have h := List.length_filterMap_le f (List.range n)
  rw [List.length_range] at h
  exact h
section
variable {K : PySem.W.Frag} {σ : St} {H : Hp} {Q : VK} {g : TG} {tt : TT} {te : TE} {vs : List Nat}
/-- one turn: the target, the test, the element come to f i, all that stood kept -/
def LcTurn (g : TG) (tt : TT) (te : TE) (vs : List Nat) (σ : St) (H : Hp) (x : V) (y : Option V) : Prop :=
  ∀ H2, Evl.Ex H H2 → ∀ R : Option V → Hp → Prop, (∀ H3, Evl.Ex H2 H3 → R y H3) →
    g x (wipe σ vs) H2 fun σ2 H3 => wipe σ2 vs = wipe σ vs ∧ tt σ2 H3 fun b H4 => if b = true then te σ2 H4 fun y H5 => R (some y) H5 else R none H4
theorem lc_of {n : Nat} {D : Addr} {H1 : Hp} {f : Nat → Option V} {i : Nat} {H' : Hp} (hn : n ≤ 50000) (hi : i < n) (p1 : H1 D = none) (p2 : Evl.Ex H1 H') (p3 : H' D = some (.lst ((List.range i).filterMap f))) {x : V} (ht : LcTurn g tt te vs σ H1 x (f i)) :
    g x (wipe σ vs) H' fun σ2 H2 => wipe σ2 vs = wipe σ vs ∧ tt σ2 H2 fun b H3 =>
      if b = true then te σ2 H3 fun y H4 => ∃ acc, H4 D = some (.lst acc) ∧ acc.length < sizeLine ∧ (H1 D = none ∧ Evl.Ex H1 (upd H4 D (.lst (acc ++ [y]))) ∧ upd H4 D (.lst (acc ++ [y])) D = some (.lst ((List.range (i + 1)).filterMap f))) else (H1 D = none ∧ Evl.Ex H1 H3 ∧ H3 D = some (.lst ((List.range (i + 1)).filterMap f))) := by
  refine ht H' p2 (fun o H4 => match o with
    | some y => ∃ acc, H4 D = some (.lst acc) ∧ acc.length < sizeLine ∧ (H1 D = none ∧ Evl.Ex H1 (upd H4 D (.lst (acc ++ [y]))) ∧ upd H4 D (.lst (acc ++ [y])) D = some (.lst ((List.range (i + 1)).filterMap f)))
    | none => (H1 D = none ∧ Evl.Ex H1 H4 ∧ H4 D = some (.lst ((List.range (i + 1)).filterMap f)))) (fun H3 e3 => ?_)
  cases hf : f i with
  | some y =>
    refine ⟨_, e3 _ _ p3, ?_, p1, Evl.Ex.mut (p2.trans e3) p1, ?_⟩
    · have := fm_len (f := f) (n := i)
      exact Evl.sz_lt (by omega)
    · rw [upd_same, range_fm, hf] <;> rfl
  | none =>
    refine ⟨p1, p2.trans e3, ?_⟩
    rw [range_fm, hf]
    show H3 D = some (.lst (_ ++ []))
    rw [List.append_nil]
    exact e3 _ _ p3
end
end L2

/-! ### loops -/
namespace L2
open PySem PySem.Spec PyProof.Rows
/-- a loop over what is walked already -/
def ForI (J : It) (g : TG) (tb : TS) (D : Ends) (σ : St) (H : Hp) : Prop := tFor (fun _ H1 R => R J H1) g tb D σ H
section
variable {K : PySem.W.Frag} {σ : St} {H : Hp} {D : Ends} {g : TG} {tb : TS} {ta : TA} {tl : TE}
theorem c_forR1 (h : ta σ H fun vs H1 => ∃ j : Int, vs = [.int j] ∧ -(2 ^ 62) ≤ j ∧ j < 2 ^ 62 ∧ ForI (Itr 0 j.toNat) g tb D σ H1) : tFor (iRng1 ta) g tb D σ H := h
theorem c_forR2 (h : ta σ H fun vs H1 => ∃ i j : Int, vs = [.int i, .int j] ∧ (-(2 ^ 62) ≤ i ∧ i < 2 ^ 62 ∧ -(2 ^ 62) ≤ j ∧ j < 2 ^ 62) ∧ ForI (Itr i (j - i).toNat) g tb D σ H1) : tFor (iRng2 ta) g tb D σ H := h
theorem c_forL (h : tl σ H fun x H1 => ∃ a, x = .ref a ∧ (∃ xs, SqL K H1 a xs) ∧ ForI (Itl K a) g tb D σ H1) : tFor (iList K tl) g tb D σ H := h
theorem c_forT (h : tl σ H fun x H1 => ∃ a, x = .ref a ∧ (∃ xs, SqT K H1 a xs) ∧ ForI (Itt K a) g tb D σ H1) : tFor (iTup K tl) g tb D σ H := h
/-- range(n), n whole and not below 0 or below it -/
theorem forR {n : Nat} {j : Nat} (Pv : Nat → St → Hp → Prop) (h0 : Pv 0 σ H) (hs : ∀ (i : Nat) σ' H', i < n → Pv i σ' H' → tb { D with nx := Pv (i + 1), ct := Pv (i + 1), bk := D.nx } (σ'.set j (some (.int (i : Int)))) H') (hd : ∀ σ' H', Pv n σ' H' → D.nx σ' H') : ForI (Itr 0 n) (gName j) tb D σ H :=
  for_range (lo := 0) (n := n) Pv h0 (fun i σ' H' hi p => by
    have e0 : (0 : Int) + (i : Int) = (i : Int) := Int.zero_add _
    show tb { D with nx := Pv (i + 1), ct := Pv (i + 1), bk := D.nx } (σ'.set j (some (.int ((0 : Int) + (i : Int))))) H'
    rw [e0]
    exact hs i σ' H' hi p) hd
theorem forL {a : Addr} {xs : List V} {j : Nat} (Pv : Nat → St → Hp → Prop) (h0 : Pv 0 σ H) (hl : ∀ i σ' H', i ≤ xs.length → Pv i σ' H' → SqL K H' a xs)
    (hs : ∀ i x σ' H', xs[i]? = some x → Pv i σ' H' → tb { D with nx := Pv (i + 1), ct := Pv (i + 1), bk := D.nx } (σ'.set j (some x)) H') (hd : ∀ σ' H', Pv xs.length σ' H' → D.nx σ' H') : ForI (Itl K a) (gName j) tb D σ H := for_list Pv h0 hl hs hd
theorem forT {a : Addr} {xs : List V} {j : Nat} (Pv : Nat → St → Hp → Prop) (h0 : Pv 0 σ H) (hl : ∀ i σ' H', i ≤ xs.length → Pv i σ' H' → SqT K H' a xs)
    (hs : ∀ i x σ' H', xs[i]? = some x → Pv i σ' H' → tb { D with nx := Pv (i + 1), ct := Pv (i + 1), bk := D.nx } (σ'.set j (some x)) H') (hd : ∀ σ' H', Pv xs.length σ' H' → D.nx σ' H') : ForI (Itt K a) (gName j) tb D σ H := for_tup Pv h0 hl hs hd
end
/-- a comprehension over what is walked already -/
def LcI (J : It) (g : TG) (tt : TT) (te : TE) (vs : List Nat) (σ : St) (H : Hp) (Q : VK) : Prop := tLc (fun _ H1 R => R J H1) g tt te vs σ H Q
section
variable {K : PySem.W.Frag} {σ : St} {H : Hp} {Q : VK} {g : TG} {tt : TT} {te : TE} {vs : List Nat} {ta : TA} {tl : TE}
theorem c_lcR1 (h : ta σ H fun ws H1 => ∃ j : Int, ws = [.int j] ∧ -(2 ^ 62) ≤ j ∧ j < 2 ^ 62 ∧ LcI (Itr 0 j.toNat) g tt te vs σ H1 Q) : tLc (iRng1 ta) g tt te vs σ H Q := h
theorem c_lcLi (h : tl σ H fun x H1 => ∃ a, x = .ref a ∧ (∃ xs, SqL K H1 a xs) ∧ LcI (Itl K a) g tt te vs σ H1 Q) : tLc (iList K tl) g tt te vs σ H Q := h
theorem c_lcTi (h : tl σ H fun x H1 => ∃ a, x = .ref a ∧ (∃ xs, SqT K H1 a xs) ∧ LcI (Itt K a) g tt te vs σ H1 Q) : tLc (iTup K tl) g tt te vs σ H Q := h
theorem lcL {a : Addr} {xs : List V} (f : Nat → Option V) (hs : SqL K H a xs) (hl : xs.length ≤ 50000) (ht : ∀ (i : Nat) (x : V), xs[i]? = some x → LcTurn g tt te vs σ H x (f i)) (k : RetL ((List.range xs.length).filterMap f) H Q) : LcI (Itl K a) g tt te vs σ H Q := by
  refine fun D hD => ?_
  refine lc_list (xs := xs) (fun i H' => H D = none ∧ Evl.Ex H H' ∧ H' D = some (.lst ((List.range i).filterMap f))) ⟨hD, Evl.Ex.new hD, upd_same⟩ (fun i H' _ p => Evl.ex_l p.2.1 hs) (fun i x H' hi p => ?_) (fun H' p => k D H' p.1 p.2.1 p.2.2)
  exact lc_of hl (List.getElem?_eq_some_iff.mp hi).1 p.1 p.2.1 p.2.2 (ht i x hi)
theorem lcT {a : Addr} {xs : List V} (f : Nat → Option V) (hs : SqT K H a xs) (hl : xs.length ≤ 50000) (ht : ∀ (i : Nat) (x : V), xs[i]? = some x → LcTurn g tt te vs σ H x (f i)) (k : RetL ((List.range xs.length).filterMap f) H Q) : LcI (Itt K a) g tt te vs σ H Q := by
  refine fun D hD => ?_
  refine lc_tup (xs := xs) (fun i H' => H D = none ∧ Evl.Ex H H' ∧ H' D = some (.lst ((List.range i).filterMap f))) ⟨hD, Evl.Ex.new hD, upd_same⟩ (fun i H' _ p => Evl.ex_t p.2.1 hs) (fun i x H' hi p => ?_) (fun H' p => k D H' p.1 p.2.1 p.2.2)
  exact lc_of hl (List.getElem?_eq_some_iff.mp hi).1 p.1 p.2.1 p.2.2 (ht i x hi)
theorem lcR {n : Nat} (f : Nat → Option V) (hl : n ≤ 50000) (ht : ∀ (i : Nat), i < n → LcTurn g tt te vs σ H (.int (i : Int)) (f i)) (k : RetL ((List.range n).filterMap f) H Q) : LcI (Itr 0 n) g tt te vs σ H Q := by
  refine fun D hD => ?_
  refine lc_range (lo := 0) (n := n) (fun i H' => H D = none ∧ Evl.Ex H H' ∧ H' D = some (.lst ((List.range i).filterMap f))) ⟨hD, Evl.Ex.new hD, upd_same⟩ (fun i H' hi p => ?_) (fun H' p => k D H' p.1 p.2.1 p.2.2)
  have e0 : (0 : Int) + (i : Int) = (i : Int) := Int.zero_add _
  rw [e0]
  exact lc_of hl hi p.1 p.2.1 p.2.2 (ht i hi)
end
end L2

/-! ### texts -/
namespace L2
open PySem PySem.Spec PyProof.Rows
open TL (tl)
/-- x is b, x is not b, b True or False, x a flat thing -/
def rIsV : R2 := fun x y H Q => ∃ b : Bool, y = .bl b ∧ flatV x = true ∧ Q (.bl (decide (x = .bl b))) H
def rNotV : R2 := fun x y H Q => ∃ b : Bool, y = .bl b ∧ flatV x = true ∧ Q (.bl (!decide (x = .bl b))) H
section
variable {X : Cx}
theorem isV_plain {x : V} {v : Value} {b : Bool} (rx : RelV x v) (f : flatV x = true) : plainIs v (.bool b) = true ∧ (v == Value.bool b) = decide (x = .bl b) := by
  cases x with
  | non => cases (show v = Value.none from rx); exact ⟨rfl, rfl⟩
  | bl c =>
    cases (show v = Value.bool c from rx)
    refine ⟨rfl, ?_⟩
    cases c <;> cases b <;> rfl
  | int i => obtain ⟨t, e⟩ := (show ∃ t, v = Value.int i t from rx); cases e; exact ⟨rfl, rfl⟩
  | str z => obtain ⟨t, e⟩ := (show ∃ t, v = Value.str z t from rx); cases e; exact ⟨rfl, rfl⟩
  | _ => exact absurd f Bool.false_ne_true
theorem op_isB : OpR X (compareOp .Is) rIsV := by
  intro pins s σ H x y v u Q I rx ry h
  obtain ⟨b, rfl, f, q⟩ := h
  cases (show u = Value.bool b from ry)
  have z := isV_plain (b := b) rx f
  refine wpAny_is_plain z.1 ?_
  rw [z.2]
  exact ⟨.bl _, H, I, rfl, q⟩
theorem op_notB : OpR X (compareOp .IsNot) rNotV := by
  intro pins s σ H x y v u Q I rx ry h
  obtain ⟨b, rfl, f, q⟩ := h
  cases (show u = Value.bool b from ry)
  have z := isV_plain (b := b) rx f
  refine wpAny_isNot_plain z.1 ?_
  rw [z.2]
  exact ⟨.bl _, H, I, rfl, q⟩
end
/-- s * n, n two at least -/
def repS (x : Str) (n : Nat) : Str := ⟨(List.replicate n x.cps).foldl (· ++ ·) #[]⟩
theorem rep_size (a : Array Nat) : ∀ (n : Nat) (acc : Array Nat), ((List.replicate n a).foldl (· ++ ·) acc).size = acc.size + n * a.size
  | 0, acc => by simp
  | n + 1, acc => by
    rw [List.replicate_succ, List.foldl_cons, rep_size a n, Array.size_append, Nat.succ_mul]
    omega
theorem repS_len (x : Str) (n : Nat) : (repS x n).length = n * x.length := by
  show ((List.replicate n x.cps).foldl (· ++ ·) #[]).size = _
  rw [rep_size]
  simp [Str.length]
section
variable {X : Cx}
theorem op_rep_str : OpR X (binaryOp .Mult) (fun x y H Q => ∃ (z : Str) (n : Int), x = .str z ∧ y = .int n ∧ 2 ≤ n ∧ n ≤ 100000 ∧ 0 < z.length ∧ z.length ≤ 100 ∧ Q (.str (repS z n.toNat)) H) := by
  intro pins s σ H x y v u Q I rx ry h
  obtain ⟨z, n, rfl, rfl, h2, h1, z0, z1, q⟩ := h
  obtain ⟨t, rfl⟩ := rx
  obtain ⟨t', rfl⟩ := ry
  have hs : sizeLine = 16777216 := sizeLine_eq
  have hp : z.length * n.toNat ≤ 100 * 100000 := Nat.mul_le_mul z1 (by omega)
  refine PySem.P.mul_str ?_ (fun _ _ => ?_) (fun _ _ => ?_) ?_
  · rw [decide_eq_false (by omega), decide_eq_false (by omega)]; rfl
  · have : (100 : Int) ≤ (2 ^ 63 - 1) / n := by
      rw [Int.le_ediv_iff_mul_le (by omega)]
      omega
    omega
  · unfold Builtin.Str.tooLong
    rw [decide_eq_false (by omega)]
  · rw [if_neg (by omega), if_neg (by
      rw [Bool.or_eq_true, beq_iff_eq, beq_iff_eq]
      omega)]
    refine ⟨?_, .str (repS z n.toNat), H, I.tok _, ⟨_, rfl⟩, q⟩
    have e := repS_len z n.toNat
    rw [Nat.mul_comm] at e
    show (repS z n.toNat).length ≤ sizeLine
    omega
end
/-! loops over a text -/
section
variable {K : PySem.W.Frag} {σ : St} {H : Hp} {D : Ends} {Q : VK} {g : TG} {tb : TS} {tl' : TE} {tt : TT} {te : TE} {vs : List Nat}
theorem c_forS (h : tl' σ H fun v H1 => ∃ x, v = .str x ∧ ForI (Its x) g tb D σ H1) : tFor (iStr tl') g tb D σ H := h
theorem c_lcSi (h : tl' σ H fun v H1 => ∃ x, v = .str x ∧ LcI (Its x) g tt te vs σ H1 Q) : tLc (iStr tl') g tt te vs σ H Q := h
theorem tl_get {x : Str} {i c : Nat} : x.cps[i]? = some c ↔ (tl x)[i]? = some c := by
  show _ ↔ x.cps.toList[i]? = some c
  rw [Array.getElem?_toList]
theorem tl_len (x : Str) : (tl x).length = x.length := by simp [tl, Str.length]
theorem forS {x : Str} {j : Nat} (Pv : Nat → St → Hp → Prop) (h0 : Pv 0 σ H)
    (hs : ∀ i c σ' H', (tl x)[i]? = some c → Pv i σ' H' → tb { D with nx := Pv (i + 1), ct := Pv (i + 1), bk := D.nx } (σ'.set j (some (.str ⟨#[c]⟩))) H') (hd : ∀ σ' H', Pv (tl x).length σ' H' → D.nx σ' H') : ForI (Its x) (gName j) tb D σ H :=
  for_it walk_str Pv h0 (fun _ _ _ _ _ => trivial) (fun i v σ' H' H'' hi p y => by
    obtain ⟨rfl, c, hc, rfl⟩ := y
    exact hs i c σ' H'' (tl_get.mp hc) p) (by
    have e : x.cps.size = (tl x).length := by simp [tl]
    rw [e]
    exact hd)
theorem fm_range {α : Type} {F : α → Option V} : ∀ {l : List α}, (List.range l.length).filterMap (fun i => (l[i]?).bind F) = l.filterMap F
  | [] => rfl
  | a :: l => by
    rw [List.length_cons, List.range_succ_eq_map, List.filterMap_cons, List.filterMap_map, List.filterMap_cons]
    have ih := fm_range (F := F) (l := l)
    rw [List.getElem?_cons_zero, Option.bind_some]
    have e : ((fun i => ((a :: l)[i]?).bind F) ∘ Nat.succ) = fun i => (l[i]?).bind F := by
      funext i
      simp
    rw [e, ih] <;> rfl
theorem lcS {x : Str} (F : Nat → Option V) (hl : x.length ≤ 50000) (ht : ∀ c, c ∈ tl x → LcTurn g tt te vs σ H (.str ⟨#[c]⟩) (F c)) (k : RetL ((tl x).filterMap F) H Q) : LcI (Its x) g tt te vs σ H Q := by
  refine fun D hD => ?_
  have e : x.cps.size = (tl x).length := by simp [tl]
  refine lc_it walk_str (fun i H' => H D = none ∧ Evl.Ex H H' ∧ H' D = some (.lst ((List.range i).filterMap fun i => ((tl x)[i]?).bind F))) ⟨hD, Evl.Ex.new hD, upd_same⟩ (fun _ _ _ _ => trivial) (fun i v H' H'' hi p y => ?_) (fun H' p => k D H' p.1 p.2.1 ?_)
  · obtain ⟨rfl, c, hc, rfl⟩ := y
    have hc2 := tl_get.mp hc
    refine lc_of (n := x.cps.size) (f := fun i => ((tl x)[i]?).bind F) hl hi p.1 p.2.1 p.2.2 ?_
    rw [hc2]
    exact ht c (List.mem_of_getElem? hc2)
  · have q := p.2.2
    rw [e, fm_range] at q
    exact q
/-- the same of a list, by what its things are -/
theorem lcLv {a : Addr} {xs : List V} (F : V → Option V) (hs : SqL K H a xs) (hl : xs.length ≤ 50000) (ht : ∀ x, x ∈ xs → LcTurn g tt te vs σ H x (F x)) (k : RetL (xs.filterMap F) H Q) : LcI (Itl K a) g tt te vs σ H Q := by
  refine lcL (fun i => (xs[i]?).bind F) hs hl (fun i x hi => ?_) ?_
  · rw [hi]
    exact ht x (List.mem_of_getElem? hi)
  · rw [fm_range]
    exact k
end
theorem fm_some {α : Type} {F : α → V} : ∀ (l : List α), l.filterMap (fun c => some (F c)) = l.map F
  | [] => rfl
  | a :: l => by rw [List.filterMap_cons, List.map_cons, fm_some l]
theorem tl_ext {x y : Str} : x = y ↔ tl x = tl y := ⟨fun h => by rw [h], TL.ext_tl⟩
theorem starts_is (x y : Str) : Txt.startswith x y = ((tl x).take (tl y).length == tl y) := by
  unfold Txt.startswith
  rw [StrLaws.subAt_eq]
  show (decide (0 + y.length ≤ x.length) && (((tl x).drop 0).take y.length == tl y)) = _
  rw [List.drop_zero, tl_len]
  cases h : (List.take y.length (tl x) == tl y) with
  | false => rw [Bool.and_false]
  | true =>
    rw [Bool.and_true, decide_eq_true_eq]
    have e := congrArg List.length (beq_iff_eq.mp h)
    rw [List.length_take, tl_len, tl_len] at e
    omega
theorem tl_cut (z : Str) (lo hi : Option Int) : tl (cutS z lo hi) = ((tl z).drop (HT.sIx z.length 0 lo)).take (HT.sIx z.length z.length hi - HT.sIx z.length 0 lo) := rfl
theorem tl_one (c : Nat) : tl ⟨#[c]⟩ = [c] := rfl
end L2
namespace L2
open PySem PySem.Spec PyProof.Rows
open TL (tl)
theorem c_ixS {H : Hp} {Q : VK} {z : Str} {i : Int} {c : Nat} (hz : z.length ≤ 100000) (ha : atI (tl z) i = some c) (q : Q (.str ⟨#[c]⟩) H) : rIxS (.str z) (.int i) H Q := ⟨z, i, c, rfl, rfl, Evl.sz_of hz, ha, q⟩
theorem c_slS {H : Hp} {Q : VK} {z : Str} {lo hi : Option Int} (hz : z.length ≤ 100000) (q : Q (.str (cutS z lo hi)) H) : rSlS (.str z) lo hi H Q := ⟨z, rfl, Evl.sz_of hz, q⟩
theorem sIx_le' (n d : Nat) (hd : d ≤ n) (o : Option Int) : HT.sIx n d o ≤ n := HT.sIx_le n d hd o
theorem add_len (a b : Str) : (a ++ b).length = a.length + b.length := by
  rw [← tl_len, TL.tl_append, List.length_append, tl_len, tl_len]
end L2
namespace L2
open PySem PySem.Spec PyProof.Rows
open TL (tl)
/-- a text whose signs lie within the line -/
def OkT (t : Str) : Prop := ∀ c, c ∈ tl t → c < 1114112
theorem okT_V {t : Str} (h : OkT t) : okV (.str t) = true := by
  show PyData.strOk t = true
  unfold PyData.strOk
  rw [Array.all_eq_true']
  intro c hc
  exact decide_eq_true (h c (Array.mem_toList_iff.mpr hc))
theorem okT_one {c : Nat} (h : c < 1114112) : okV (.str ⟨#[c]⟩) = true := okT_V fun d hd => by
  have : d = c := by simpa [tl] using hd
  omega
theorem OkT.app {a b : Str} (ha : OkT a) (hb : OkT b) : OkT (a ++ b) := fun c hc => by
  rw [TL.tl_append] at hc
  rcases List.mem_append.mp hc with h | h
  · exact ha c h
  · exact hb c h
theorem OkT.cut {a : Str} (ha : OkT a) (lo hi : Option Int) : OkT (cutS a lo hi) := fun c hc => ha c (List.mem_of_mem_drop (List.mem_of_mem_take hc))
theorem OkT.lit {t : Str} (h : (tl t).all (fun c => decide (c < 1114112)) = true) : OkT t := fun c hc => of_decide_eq_true (List.all_eq_true.mp h c hc)
end L2

open L2 in
local macro_rules | `(tactic| walk_at "s") => `(tactic| with_reducible (first
  | refine c_var (by with_unfolding_all rfl) ?_ | refine c_c ?_ | refine c_op ?_ | refine c_test ?_ | refine c_cons ?_ | refine c_nil ?_ | refine c_call ?_ | refine c_cb ?_ | refine c_seq ?_ | refine c_asg ?_ | refine c_gName ?_ | refine c_ret ?_ | refine c_ifS ?_
  | refine c_nx ?_ | refine c_rt ?_ | refine c_bk ?_ | refine c_ct ?_ | refine c_next ?_ | refine c_drop ?_ | refine c_un ?_ | refine c_b ?_ | refine c_and ?_ | refine c_or ?_ | refine c_not ?_ | refine c_andV ?_ | refine c_orV ?_ | refine c_notV ?_ | refine c_if ?_
  | refine c_tup ?_ | refine c_lst ?_ | refine c_sl ?_ | refine c_noPart ?_ | refine c_part ?_ | refine c_bm ?_ | refine c_bm0 ?_ | refine c_m0 ?_ | refine c_m1 ?_ | refine c_chain ?_ | refine c_retN ?_ | refine c_gCons ?_ | refine c_gNil ?_ | refine c_gSub ?_
  | refine c_I0 ?_ | refine c_U ?_ | refine c_eq (by with_unfolding_all rfl) ?_ | refine c_ne (by with_unfolding_all rfl) ?_ | refine c_yes ?_ | refine c_forS ?_ | refine c_lcSi ?_ | refine c_forR1 ?_ | refine c_forR2 ?_ | refine c_forL ?_ | refine c_forT ?_ | refine c_lcR1 ?_ | refine c_lcLi ?_ | refine c_lcTi ?_ | refine c_break ?_ | refine c_cont ?_ | refine c_orT ?_ | refine c_andT ?_ | refine c_notT ?_ | refine iteT ?_ | refine iteF ?_ | refine if_nt ?_ | refine if_nf ?_
  | refine ⟨_, rfl, ?_⟩ | refine ⟨_, _, rfl, rfl, ?_⟩ | refine And.intro rfl ?_))
local macro_rules | `(tactic| walk_at "ss") => `(tactic| repeat (walk_at "s"))

namespace Toy
open PySem L2
open Evl hiding RetV RetL
def top (i : Nat) : Stmt := PySem.Challenge.pw_beatrows_k12_values_written.main.body.getD i (.Pass ⟨0, 0, 0, 0⟩)
abbrev s_value_text : Stmt := top 4
abbrev s_plain_figures : Stmt := top 5
abbrev s_value_of : Stmt := top 6
abbrev s_cell_at_l : Stmt := top 8
abbrev s_box_l : Stmt := top 9
abbrev s_take_l : Stmt := top 10
abbrev s_written_l : Stmt := top 11
abbrev s_read_l : Stmt := top 12
abbrev s_same_l : Stmt := top 13
abbrev s_value_l : Stmt := top 14
abbrev s_spoilt_l : Stmt := top 15
abbrev s_law : Stmt := top 16
/-- where the defs stand -/
structure Adr where
  f_value_text : Addr
  fd_value_text : FuncData
  f_plain_figures : Addr
  fd_plain_figures : FuncData
  f_value_of : Addr
  fd_value_of : FuncData
  f_cell_at_l : Addr
  fd_cell_at_l : FuncData
  f_box_l : Addr
  fd_box_l : FuncData
  f_take_l : Addr
  fd_take_l : FuncData
  f_written_l : Addr
  fd_written_l : FuncData
  f_read_l : Addr
  fd_read_l : FuncData
  f_same_l : Addr
  fd_same_l : FuncData
  f_value_l : Addr
  fd_value_l : FuncData
  f_spoilt_l : Addr
  fd_spoilt_l : FuncData
  f_law : Addr
  fd_law : FuncData
structure Txt (K : PySem.W.Frag) (mg : Str → Option Value) (Z : Adr) : Prop where
  F_value_text : Fun K "value_text" "value_text" s_value_text Z.f_value_text Z.fd_value_text
  b_value_text : Binds K Z.fd_value_text ["value"] []
  g_value_text : mg "value_text" = some (.ref Z.f_value_text)
  F_plain_figures : Fun K "plain_figures" "plain_figures" s_plain_figures Z.f_plain_figures Z.fd_plain_figures
  b_plain_figures : Binds K Z.fd_plain_figures ["text"] []
  g_plain_figures : mg "plain_figures" = some (.ref Z.f_plain_figures)
  F_value_of : Fun K "value_of" "value_of" s_value_of Z.f_value_of Z.fd_value_of
  b_value_of : Binds K Z.fd_value_of ["thing"] []
  g_value_of : mg "value_of" = some (.ref Z.f_value_of)
  F_cell_at_l : Fun K "_law_cell_at" "_law_cell_at" s_cell_at_l Z.f_cell_at_l Z.fd_cell_at_l
  b_cell_at_l : Binds K Z.fd_cell_at_l ["_law_script", "_law_k"] []
  g_cell_at_l : mg "_law_cell_at" = some (.ref Z.f_cell_at_l)
  F_box_l : Fun K "_law_box" "_law_box" s_box_l Z.f_box_l Z.fd_box_l
  b_box_l : Binds K Z.fd_box_l ["_law_cell"] []
  g_box_l : mg "_law_box" = some (.ref Z.f_box_l)
  F_take_l : Fun K "_law_take" "_law_take" s_take_l Z.f_take_l Z.fd_take_l
  b_take_l : Binds K Z.fd_take_l ["_law_box_here", "_law_many"] []
  g_take_l : mg "_law_take" = some (.ref Z.f_take_l)
  F_written_l : Fun K "_law_written" "_law_written" s_written_l Z.f_written_l Z.fd_written_l
  b_written_l : Binds K Z.fd_written_l ["_law_value_here"] []
  g_written_l : mg "_law_written" = some (.ref Z.f_written_l)
  F_read_l : Fun K "_law_read" "_law_read" s_read_l Z.f_read_l Z.fd_read_l
  b_read_l : Binds K Z.fd_read_l ["_law_thing"] []
  g_read_l : mg "_law_read" = some (.ref Z.f_read_l)
  F_same_l : Fun K "_law_same" "_law_same" s_same_l Z.f_same_l Z.fd_same_l
  b_same_l : Binds K Z.fd_same_l ["_law_found", "_law_due"] []
  g_same_l : mg "_law_same" = some (.ref Z.f_same_l)
  F_value_l : Fun K "_law_value" "_law_value" s_value_l Z.f_value_l Z.fd_value_l
  b_value_l : Binds K Z.fd_value_l ["_law_box_here"] []
  g_value_l : mg "_law_value" = some (.ref Z.f_value_l)
  F_spoilt_l : Fun K "_law_spoilt" "_law_spoilt" s_spoilt_l Z.f_spoilt_l Z.fd_spoilt_l
  b_spoilt_l : Binds K Z.fd_spoilt_l ["_law_box_here", "_law_text"] []
  g_spoilt_l : mg "_law_spoilt" = some (.ref Z.f_spoilt_l)
  F_law : Fun K "law" "law" s_law Z.f_law Z.fd_law
  b_law : Binds K Z.fd_law ["_law_script"] []
  g_law : mg "law" = some (.ref Z.f_law)
  n_abs : mg "abs" = none
  n_all : mg "all" = none
  n_bool : mg "bool" = none
  n_int : mg "int" = none
  n_isinstance : mg "isinstance" = none
  n_len : mg "len" = none
  n_max : mg "max" = none
  n_min : mg "min" = none
  n_range : mg "range" = none
  n_str : mg "str" = none
  c_FIGURES : ∃ u, mg "FIGURES" = some u ∧ RelV (.str "0123456789") u
  c_MOST : ∃ u, mg "MOST" = some u ∧ RelV (.int 1000000000) u
  c_MOST_FIGURES : ∃ u, mg "MOST_FIGURES" = some u ∧ RelV (.int 10) u
abbrev N_value_text : List Str := ["value"]
theorem sc_value_text : FnScope N_value_text ["value"] (defScope s_value_text) := ⟨rfl, rfl, rfl, by decide +kernel, rfl, by decide +kernel, by decide +kernel⟩
abbrev N_plain_figures : List Str := ["text", "sign"]
theorem sc_plain_figures : FnScope N_plain_figures ["text"] (defScope s_plain_figures) := ⟨rfl, rfl, rfl, by decide +kernel, rfl, by decide +kernel, by decide +kernel⟩
abbrev N_value_of : List Str := ["thing", "below", "number"]
theorem sc_value_of : FnScope N_value_of ["thing"] (defScope s_value_of) := ⟨rfl, rfl, rfl, by decide +kernel, rfl, by decide +kernel, by decide +kernel⟩
abbrev N_cell_at_l : List Str := ["_law_script", "_law_k"]
theorem sc_cell_at_l : FnScope N_cell_at_l ["_law_script", "_law_k"] (defScope s_cell_at_l) := ⟨rfl, rfl, rfl, by decide +kernel, rfl, by decide +kernel, by decide +kernel⟩
abbrev N_box_l : List Str := ["_law_cell"]
theorem sc_box_l : FnScope N_box_l ["_law_cell"] (defScope s_box_l) := ⟨rfl, rfl, rfl, by decide +kernel, rfl, by decide +kernel, by decide +kernel⟩
abbrev N_take_l : List Str := ["_law_box_here", "_law_many", "_law_digit", "_law_number", "_law_high", "_law_low"]
theorem sc_take_l : FnScope N_take_l ["_law_box_here", "_law_many"] (defScope s_take_l) := ⟨rfl, rfl, rfl, by decide +kernel, rfl, by decide +kernel, by decide +kernel⟩
abbrev N_written_l : List Str := ["_law_value_here", "_law_number", "_law_text"]
theorem sc_written_l : FnScope N_written_l ["_law_value_here"] (defScope s_written_l) := ⟨rfl, rfl, rfl, by decide +kernel, rfl, by decide +kernel, by decide +kernel⟩
abbrev N_read_l : List Str := ["_law_thing", "_law_figures", "_law_sign", "_law_number"]
theorem sc_read_l : FnScope N_read_l ["_law_thing"] (defScope s_read_l) := ⟨rfl, rfl, rfl, by decide +kernel, rfl, by decide +kernel, by decide +kernel⟩
abbrev N_same_l : List Str := ["_law_found", "_law_due"]
theorem sc_same_l : FnScope N_same_l ["_law_found", "_law_due"] (defScope s_same_l) := ⟨rfl, rfl, rfl, by decide +kernel, rfl, by decide +kernel, by decide +kernel⟩
abbrev N_value_l : List Str := ["_law_box_here", "_law_most", "_law_near", "_law_number"]
theorem sc_value_l : FnScope N_value_l ["_law_box_here"] (defScope s_value_l) := ⟨rfl, rfl, rfl, by decide +kernel, rfl, by decide +kernel, by decide +kernel⟩
abbrev N_spoilt_l : List Str := ["_law_box_here", "_law_text", "_law_at", "_law_sign", "_law_some"]
theorem sc_spoilt_l : FnScope N_spoilt_l ["_law_box_here", "_law_text"] (defScope s_spoilt_l) := ⟨rfl, rfl, rfl, by decide +kernel, rfl, by decide +kernel, by decide +kernel⟩
abbrev N_law : List Str := ["_law_script", "_law_k", "_law_box_here", "_law_value_here", "_law_text", "_law_j", "_law_bad", "_law_thing"]
theorem sc_law : FnScope N_law ["_law_script"] (defScope s_law) := ⟨rfl, rfl, rfl, by decide +kernel, rfl, by decide +kernel, by decide +kernel⟩
section
variable {P : Program} {w : World} {K : PySem.W.Frag} {mg : Str → Option Value} {base : Heap} {Z : Adr}
/-! ### the law's cells and draws -/
def sp_cell_at_l (K : PySem.W.Frag) : Sp := fun vs H Q _ => ∃ (a : Addr) (ns : List Int) (k : Int), vs = [.ref a, .int k] ∧ SqL K H a (ns.map V.int) ∧ 0 ≤ k ∧ ∀ n, Q (.int n) H
def sp_box_l : Sp := fun vs H Q _ => ∃ (c : Int), vs = [.int c] ∧ ∀ p H2, H p = none → Ex H H2 → BoxAt H2 p → Q (.ref p) H2
def sp_take_l : Sp := fun vs H Q _ => ∃ (b : Addr) (m : Int), vs = [.ref b, .int m] ∧ BoxAt H b ∧ 0 < m ∧ m < 1073741824 ∧ ∀ d H2, 0 ≤ d → d < m → ExB b H H2 → BoxAt H2 b → Q (.int d) H2
theorem ok_cell_at_l (T : Txt K mg Z) : FnOk P w K mg base CX0 1 Z.f_cell_at_l Z.fd_cell_at_l ["_law_script", "_law_k"] (sp_cell_at_l K) := by
  refine T.F_cell_at_l.ok sc_cell_at_l (fun vs H Q E h => ?_) (fun cdv AA outer s H vs Q E hr h => ?_)
  · obtain ⟨a, ns, k, rfl, _⟩ := h
    rfl
  · obtain ⟨a, ns, k, rfl, hS, h0, q⟩ := h
    refine ⟨_, (pss_cons (ps_if (pt_cmpR op_lt (pv 1) (pe_callB call_len_seq (by rfl) T.n_len (by decide +kernel) (pa_cons (pv 0) pa_nil)) (nomark _)) (pss_one (ps_ret (pe_ix ix_list (pv 0) (pv 1) (fun _ _ => rfl)))) pss_nil)
      (pss_one (ps_ret (pe_op op_add (pe_op op_mul pe_int (pv 1)) pe_int)))), ?_⟩
    walk_at "ss"
    refine ⟨_, _, rfl, .inl hS, ?_⟩
    walk_at "ss"
    refine if_cs (fun hb => ?_) (fun hb => ?_)
    · walk_at "ss"
      obtain ⟨j, rfl⟩ := Int.eq_ofNat_of_zero_le h0
      have hl := of_decide_eq_true hb
      rw [List.length_map] at hl
      have hj : j < ns.length := by omega
      refine c_ixL hS (atI_nat (v := .int (ns[j]'hj)) ?_) (q _)
      rw [List.getElem?_map, List.getElem?_eq_getElem hj] <;> rfl
    · walk_at "ss"
      refine c_I (.inl ⟨by decide, by decide⟩) ?_
      walk_at "ss"
      exact q _
theorem int_mul01 {a : Int} {b : Bool} : CMul a (if b = true then 1 else 0) := by
  refine .inr ?_
  cases b
  · exact ⟨by decide, by decide⟩
  · exact ⟨by decide, by decide⟩
theorem ok_box_l (T : Txt K mg Z) : FnOk P w K mg base CX0 1 Z.f_box_l Z.fd_box_l ["_law_cell"] sp_box_l := by
  refine T.F_box_l.ok sc_box_l (fun vs H Q E h => ?_) (fun cdv AA outer s H vs Q E hr h => ?_)
  · obtain ⟨c, rfl, _⟩ := h
    rfl
  · obtain ⟨c, rfl, k⟩ := h
    refine ⟨_, (pss_one (ps_ret (pe_lst (pa_cons (pe_op op_mul (pe_callB (call_max2 rfl) (by rfl) T.n_max (by decide +kernel) (pa_cons pe_int (pa_cons (pv 0) pa_nil))) (pe_callTy call_int1 (by rfl) T.n_int (by decide +kernel) (pa_cons (pe_cmpR op_ge (pv 0) (pe_op op_pow pe_int pe_int) (nomark _)) pa_nil))) (pa_cons (pe_op op_mod (pv 0) pe_int) (pa_cons pe_int pa_nil)))))), ?_⟩
    walk_at "ss"
    refine ⟨_, _, rfl, ?_⟩
    walk_at "ss"
    refine c_I ⟨by decide, by decide, by decide⟩ ?_
    walk_at "ss"
    refine .inr ⟨_, rfl, ?_⟩
    walk_at "ss"
    refine c_I int_mul01 ?_
    walk_at "ss"
    refine c_I (by decide) ?_
    walk_at "ss"
    refine newL fun p H2 hp e2 h2 => k p H2 hp e2 ⟨_, _, _, ?_, h2⟩
    refine Int.mul_nonneg ?_ ?_
    · split <;> omega
    · split <;> omega
theorem ix3_0 {a b c : V} : atI [a, b, c] 0 = some a := rfl
theorem ix3_1 {a b c : V} : atI [a, b, c] 1 = some b := rfl
theorem ix3_2 {a b c : V} : atI [a, b, c] 2 = some c := rfl
theorem emod_mul {a m : Int} (h : 0 < m) (hm : m < 1073741824 * 1073741824) {b : Int} : CMul (a % m) b := by
  have h1 := Int.emod_nonneg a (by omega : m ≠ 0)
  have h2 := Int.emod_lt_of_pos a h
  exact .inl ⟨by omega, by omega⟩
theorem ok_take_l (T : Txt K mg Z) : FnOk P w K mg base CX0 1 Z.f_take_l Z.fd_take_l ["_law_box_here", "_law_many"] sp_take_l := by
  refine T.F_take_l.ok sc_take_l (fun vs H Q E h => ?_) (fun cdv AA outer s H vs Q E hr h => ?_)
  · obtain ⟨b, m, rfl, _⟩ := h
    rfl
  · obtain ⟨b, m, rfl, ⟨x, y, z, hx, hB⟩, m0, m1, k⟩ := h
    refine ⟨_, (pss_cons (ps_if (pt_cmpR op_gt (pe_ix ix_list (pv 0) pe_int (fun _ _ => rfl)) pe_int (nomark _)) (pss_cons (ps_set (i := 2) sc_take_l.nd rfl (Or.inl rfl) (pe_op op_mod (pe_ix ix_list (pv 0) pe_int (fun _ _ => rfl)) (pv 1)))
      (pss_cons (ps_asg (pe_op op_fdiv (pe_ix ix_list (pv 0) pe_int (fun _ _ => rfl)) (pv 1)) (pg_sub (pv 0) pe_int set_list))
      (pss_one (ps_ret (pv 2))))) pss_nil)
      (pss_cons (ps_asg (pe_op op_add (pe_ix ix_list (pv 0) pe_int (fun _ _ => rfl)) pe_int) (pg_sub (pv 0) pe_int set_list))
      (pss_cons (ps_set (i := 3) sc_take_l.nd rfl (Or.inl rfl) (pe_op op_mod (pe_op op_mul (pe_op op_add (pe_ix ix_list (pv 0) pe_int (fun _ _ => rfl)) (pe_op op_mul pe_int (pe_ix ix_list (pv 0) pe_int (fun _ _ => rfl)))) pe_int) pe_int))
      (pss_cons (ps_set (i := 3) sc_take_l.nd rfl (Or.inl rfl) (pe_op op_mod (pe_op op_mul (pv 3) (pv 3)) pe_int))
      (pss_cons (ps_set (i := 4) sc_take_l.nd rfl (Or.inl rfl) (pe_op op_fdiv (pe_op op_mod (pe_op op_mul (pe_op op_add (pv 3) (pe_ix ix_list (pv 0) pe_int (fun _ _ => rfl))) (pe_op op_add (pv 3) pe_int)) pe_int) pe_int))
      (pss_cons (ps_set (i := 5) sc_take_l.nd rfl (Or.inl rfl) (pe_op op_mod (pe_op op_add (pe_op op_mul (pv 3) pe_int) (pe_op op_mul pe_int (pe_ix ix_list (pv 0) pe_int (fun _ _ => rfl)))) pe_int))
      (pss_one (ps_ret (pe_op op_mod (pe_op op_add (pe_op op_mul (pv 4) pe_int) (pe_op op_mod (pe_op op_mul (pv 5) (pv 5)) pe_int)) (pv 1)))))))))), ?_⟩
    walk_at "ss"
    refine c_ixL (SqL.of hB) ix3_0 ?_
    walk_at "ss"
    refine if_cs (fun hb => ?_) (fun hb => ?_)
    · walk_at "ss"
      refine c_ixL (SqL.of hB) ix3_0 ?_
      walk_at "ss"
      refine c_I m0 ?_
      walk_at "ss"
      refine c_ixL (SqL.of hB) ix3_0 ?_
      walk_at "ss"
      refine c_I ⟨m0, m1⟩ ?_
      walk_at "ss"
      refine c_setL hB rfl ?_
      walk_at "ss"
      refine k _ _ (Int.emod_nonneg _ (by omega)) (Int.emod_lt_of_pos _ m0) ExB.upd ⟨_, _, _, Int.ediv_nonneg hx (by omega), upd_same⟩
    · walk_at "ss"
      refine c_ixL (SqL.of hB) ix3_2 ?_
      walk_at "ss"
      refine c_setL hB rfl ?_
      have hB2 : (upd H b (.lst [.int x, .int y, .int (z + 1)])) b = some (.lst [.int x, .int y, .int (z + 1)]) := upd_same
      walk_at "ss"
      refine c_ixL (SqL.of hB2) ix3_1 ?_
      walk_at "ss"
      refine c_ixL (SqL.of hB2) ix3_2 ?_
      walk_at "ss"
      refine c_I (.inl ⟨by decide, by decide⟩) ?_
      walk_at "ss"
      refine c_I (.inr ⟨by decide, by decide⟩) ?_
      walk_at "ss"
      refine c_I (by decide) ?_
      walk_at "ss"
      refine c_I (emod_mul (by decide) (by decide)) ?_
      walk_at "ss"
      refine c_I (by decide) ?_
      walk_at "ss"
      refine c_ixL (SqL.of hB2) ix3_2 ?_
      walk_at "ss"
      refine c_I (.inr ?_) ?_
      · have h1 := Int.emod_nonneg ((y + 7919 * (z + 1)) * 48271 % 2147483647 * ((y + 7919 * (z + 1)) * 48271 % 2147483647)) (by decide : (2147483629 : Int) ≠ 0)
        have h2 := Int.emod_lt_of_pos ((y + 7919 * (z + 1)) * 48271 % 2147483647 * ((y + 7919 * (z + 1)) * 48271 % 2147483647)) (by decide : (0 : Int) < 2147483629)
        exact ⟨by omega, by omega⟩
      walk_at "ss"
      refine c_I (by decide) ?_
      walk_at "ss"
      refine c_I ⟨by decide, by decide⟩ ?_
      walk_at "ss"
      refine c_I (.inr ⟨by decide, by decide⟩) ?_
      walk_at "ss"
      refine c_ixL (SqL.of hB2) ix3_2 ?_
      walk_at "ss"
      refine c_I (.inl ⟨by decide, by decide⟩) ?_
      walk_at "ss"
      refine c_I (by decide) ?_
      walk_at "ss"
      refine c_I (.inr ⟨by decide, by decide⟩) ?_
      walk_at "ss"
      refine c_I (emod_mul (by decide) (by decide)) ?_
      walk_at "ss"
      refine c_I (by decide) ?_
      walk_at "ss"
      refine c_I m0 ?_
      walk_at "ss"
      exact k _ _ (Int.emod_nonneg _ (by omega)) (Int.emod_lt_of_pos _ m0) ExB.upd ⟨_, _, _, hx, upd_same⟩

theorem box_ne {H : Hp} {b a : Addr} {o : HO} (h : BoxAt H b) (ha : H a = some o) (n : ∀ x y z : Int, o ≠ .lst [.int x, .int y, .int z]) : a ≠ b := by
  obtain ⟨x, y, z, _, q⟩ := h
  exact ne_of ha q (n x y z)
theorem at4 {v0 v1 v2 v3 : V} {d : Int} (h0 : 0 ≤ d) (h1 : d < 4) : ∃ v, atI [v0, v1, v2, v3] d = some v ∧ (d = 0 ∧ v = v0 ∨ d = 1 ∧ v = v1 ∨ d = 2 ∧ v = v2 ∨ d = 3 ∧ v = v3) := by
  have : d = 0 ∨ d = 1 ∨ d = 2 ∨ d = 3 := by omega
  rcases this with rfl | rfl | rfl | rfl
  · exact ⟨v0, rfl, .inl ⟨rfl, rfl⟩⟩
  · exact ⟨v1, rfl, .inr (.inl ⟨rfl, rfl⟩)⟩
  · exact ⟨v2, rfl, .inr (.inr (.inl ⟨rfl, rfl⟩))⟩
  · exact ⟨v3, rfl, .inr (.inr (.inr ⟨rfl, rfl⟩))⟩
/-- an item of a list that is asked by a draw: it is one of them -/
theorem at_in {xs : List V} {d : Int} (h0 : 0 ≤ d) (h1 : d < (xs.length : Int)) : ∃ v, atI xs d = some v ∧ v ∈ xs := by
  obtain ⟨j, rfl⟩ := Int.eq_ofNat_of_zero_le h0
  have hj : j < xs.length := by omega
  exact ⟨xs[j], atI_nat (List.getElem?_eq_getElem hj), List.getElem_mem hj⟩

/-! ### values as texts -/
open TL (tl numL)
def figs10 : List Nat := [48, 49, 50, 51, 52, 53, 54, 55, 56, 57]
theorem tl_figs : tl "0123456789" = figs10 := by decide +kernel
def digC (c : Nat) : Bool := decide (c ∈ figs10)
def negC (cs : List Nat) : Bool := cs.take 1 == [45]
def figC (cs : List Nat) : List Nat := cs.drop (if negC cs = true then 1 else 0)
def plainC (f : List Nat) : Bool := (decide (1 ≤ (f.length : Int)) && decide ((f.length : Int) ≤ 10)) && f.all digC && (f == [48] || !(f.take 1 == [48]))
def numC (cs : List Nat) : Int := if negC cs = true then -((NumText.digitsVal (figC cs) : Nat) : Int) else ((NumText.digitsVal (figC cs) : Nat) : Int)
def valOf (t : Str) : V :=
  if t = "true" then .bl true else if t = "false" then .bl false else
  if plainC (figC (tl t)) = false then .non else if t = "-0" then .non else
  if (decide (-1000000000 ≤ numC (tl t)) && decide (numC (tl t) ≤ 1000000000)) = true then .int (numC (tl t)) else .non
def sp_plain_figures : Sp := fun vs H Q _ => ∃ (t : Str), vs = [.str t] ∧ t.length ≤ 50000 ∧ RetV (.bl (plainC (tl t))) H Q
theorem dec_txt {x y : Str} : decide (V.str x = V.str y) = (tl x == tl y) := by
  by_cases h : x = y
  · subst h; simp
  · rw [decide_eq_false fun e => h (V.str.inj e)]
    exact (beq_eq_false_iff_ne.mpr fun e => h (TL.ext_tl e)).symm
theorem ok_plain_figures (T : Txt K mg Z) : FnOk P w K mg base CX0 1 Z.f_plain_figures Z.fd_plain_figures ["text"] sp_plain_figures := by
  refine T.F_plain_figures.ok sc_plain_figures (fun vs H Q E h => ?_) (fun cdv AA outer s H vs Q E hr h => ?_)
  · obtain ⟨t, rfl, _⟩ := h
    rfl
  · obtain ⟨t, rfl, hl, k⟩ := h
    refine ⟨_, (pss_cons (ps_if (PW.pt (pw_or (pt_not (pt_chain op_le op_le pe_int (pe_callB call_len_str (by rfl) T.n_len (by decide +kernel) (pa_cons (pv 0) pa_nil)) (pe_gcst rfl T.c_MOST_FIGURES))) (pw_or1 (pt_not (pt_val (pe_callB (cr_all rfl) (by rfl) T.n_all (by decide +kernel) (pa_cons (pe_lc (own := [("sign", 1)]) (g := (gName 1)) (tt := tYes) (te := (tOp (fun x y H Q => ∃ (c : Nat) (z : Str), x = .str ⟨#[c]⟩ ∧ y = .str z ∧ Q (.bl (decide (c ∈ z.cps.toList))) H) (tVar 1) (tC (.str "0123456789")))) rfl sc_plain_figures.nd (pi_str (pv 0)) (blkOk_by (own := [("sign", 1)]) (N := N_plain_figures) (sc := defScope s_plain_figures) (by decide +kernel)) (fun _ _ _ _ _ => (pg_name (i := 1) sc_plain_figures.nd rfl (Or.inl rfl))) (fun _ _ _ _ _ => pts_nil) (fun _ _ _ _ _ => (pe_cmpR op_in_sign (pv 1) (pe_gcst rfl T.c_FIGURES) (by rfl)))) pa_nil))))))) (pss_one (ps_ret pe_bl)) pss_nil)
      (pss_one (ps_ret (pe_or (pe_cmpR op_eq (pv 0) pe_str (nomark _)) (pe_one (pe_not (pe_m1 PySem.F.slot_str_startswith PySem.F.type_str_startswith mt_startswith (pv 0) pe_str))))))), ?_⟩
    unfold plainC at k
    rw [tl_len] at k
    have hz : t.length ≤ sizeLine := Evl.sz_of (by omega)
    walk_at "ss"
    refine ⟨hz, ?_⟩
    walk_at "ss"
    cases hlen : (decide (1 ≤ (t.length : Int)) && decide ((t.length : Int) ≤ 10)) with
    | false =>
      rw [hlen] at k
      refine if_cs (fun h1 => ?_) (fun h1 => ?_)
      · walk_at "ss"
        rw [h1, Bool.true_and] at hlen
        rw [hlen]
        walk_at "ss"
        exact k _ (Ex.refl _)
      · walk_at "ss"
        exact k _ (Ex.refl _)
    | true =>
      rw [hlen, Bool.true_and] at k
      rw [Bool.and_eq_true] at hlen
      rw [hlen.1]
      walk_at "ss"
      rw [hlen.2]
      walk_at "ss"
      refine lcS (fun c => some (.bl (digC c))) hl (fun c hc => ?_) ?_
      · intro H2 e2 R hR
        walk_at "ss"
        have e : decide (c ∈ (Str.ofString "0123456789").cps.toList) = digC c := by rw [show (Str.ofString "0123456789").cps.toList = figs10 from tl_figs]; rfl
        rw [e]
        exact hR _ (Ex.refl _)
      rw [fm_some]
      intro p H2 hp e2 h2
      walk_at "ss"
      refine ⟨p, (tl t).map digC, rfl, SqL.of (by rw [h2, List.map_map]; rfl), ?_⟩
      have ea : ((tl t).map digC).all id = (tl t).all digC := by rw [List.all_map]; rfl
      rw [ea]
      walk_at "ss"
      refine if_cs (fun ha => ?_) (fun ha => ?_)
      · rw [Bool.not_eq_true'] at ha
        rw [ha, Bool.false_and] at k
        walk_at "ss"
        exact k _ e2
      · rw [Bool.not_eq_false'] at ha
        rw [ha, Bool.true_and] at k
        walk_at "ss"
        rw [dec_txt]
        refine if_cs (fun h0 => ?_) (fun h0 => ?_)
        · have h0' : (tl t == [48]) = true := h0
          rw [h0', Bool.true_or] at k
          walk_at "ss"
          exact k _ e2
        · have h0' : (tl t == [48]) = false := h0
          rw [h0', Bool.false_or] at k
          walk_at "ss"
          refine ⟨⟨_, rfl⟩, ?_⟩
          walk_at "ss"
          rw [starts_is]
          exact k _ e2

theorem kb_ss : kitB "str" "str" = some true := by decide +kernel
theorem negC_is (t : Str) : Txt.startswith t "-" = negC (tl t) := by
  rw [starts_is]
  rfl
theorem fig_cut {t : Str} : tl (cutS t (some (if negC (tl t) = true then 1 else 0)) none) = figC (tl t) := by
  have hn : negC (tl t) = true → 1 ≤ t.length := fun h => by
    have e := congrArg List.length (beq_iff_eq.mp h)
    rw [List.length_take, tl_len] at e
    have : ([45] : List Nat).length = 1 := rfl
    omega
  rw [tl_cut]
  unfold figC
  cases hc : negC (tl t) with
  | true =>
    have := hn hc
    have e1 : HT.sIx t.length 0 (some (if true = true then (1 : Int) else 0)) = 1 := by
      rw [if_pos rfl]
      have := HT.sIx_nat t.length 0 1
      rw [show ((1 : Nat) : Int) = 1 from rfl] at this
      rw [this]
      omega
    rw [e1, if_pos rfl, HT.sIx_none]
    refine List.take_of_length_le ?_
    rw [List.length_drop, tl_len]
    exact Nat.le_refl _
  | false =>
    have e1 : HT.sIx t.length 0 (some (if false = true then (1 : Int) else 0)) = 0 := by
      rw [if_neg (by decide)]
      have := HT.sIx_nat t.length 0 0
      rw [show ((0 : Nat) : Int) = 0 from rfl] at this
      rw [this]
      omega
    rw [e1, if_neg (by decide), HT.sIx_none]
    refine List.take_of_length_le ?_
    rw [List.length_drop, tl_len]
    exact Nat.le_refl _
theorem dig_iff {c : Nat} : digC c = true ↔ 48 ≤ c ∧ c ≤ 57 := by
  unfold digC figs10
  rw [decide_eq_true_eq]
  simp only [List.mem_cons, List.not_mem_nil, or_false]
  omega
theorem plain_parts {f : List Nat} (h : plainC f = true) : 1 ≤ f.length ∧ f.length ≤ 10 ∧ f.all digC = true ∧ (f = [48] ∨ f.take 1 ≠ [48]) := by
  unfold plainC at h
  rw [Bool.and_eq_true, Bool.and_eq_true, Bool.and_eq_true, decide_eq_true_eq, decide_eq_true_eq, Bool.or_eq_true, beq_iff_eq, Bool.not_eq_true', beq_eq_false_iff_ne] at h
  obtain ⟨⟨⟨h1, h2⟩, h3⟩, h4⟩ := h
  exact ⟨by omega, by omega, h3, h4⟩
/-- int(text) of what is plainly written -/
theorem int_plain {t : Str} (h : plainC (figC (tl t)) = true) : PySem.intText? t = some (numC (tl t)) ∧ t.length ≤ 640 := by
  obtain ⟨h1, h2, h3, _⟩ := plain_parts h
  have hd : NumText.AllDigits (figC (tl t)) := fun c hc => dig_iff.mp (List.all_eq_true.mp h3 c hc)
  have hne : figC (tl t) ≠ [] := fun e => by rw [e] at h1; exact absurd h1 (by decide)
  unfold numC
  cases hn : negC (tl t) with
  | true =>
    have hx : t.cps.toList = 45 :: figC (tl t) := by
      unfold figC
      rw [hn, if_pos rfl]
      have e := beq_iff_eq.mp hn
      show tl t = _
      calc tl t = (tl t).take 1 ++ (tl t).drop 1 := (List.take_append_drop 1 _).symm
        _ = _ := by rw [e]; rfl
    have hl : t.length ≤ 11 := by
      rw [← tl_len, show tl t = _ from hx, List.length_cons]
      omega
    rw [if_pos rfl]
    exact ⟨intText_neg hx hd hne (by omega), by omega⟩
  | false =>
    have hx : figC (tl t) = t.cps.toList := by
      unfold figC
      rw [hn, if_neg (by decide), List.drop_zero]
    have hl : t.length ≤ 11 := by
      rw [← tl_len, show tl t = _ from hx.symm]
      omega
    rw [if_neg (by decide)]
    rw [hx] at hd hne ⊢
    exact ⟨intText_digits hd hne (by omega), by omega⟩
/-- what value_of does: of texts by valOf, of other things None -/
def sp_value_of (K : PySem.W.Frag) : Sp := fun vs H Q _ => ∃ (v : V), vs = [v] ∧ ((∃ t : Str, v = .str t ∧ t.length ≤ 50000 ∧ RetV (valOf t) H Q) ∨ ∃ n : String, TyX K H v (.type n) ∧ kitB n "str" = some false ∧ Q .non H)
theorem ok_value_of (T : Txt K mg Z) : FnOk P w K mg base CX0 2 Z.f_value_of Z.fd_value_of ["thing"] (sp_value_of K) := by
  have G_plain_figures := ok_plain_figures (P := P) (w := w) (base := base) T
  refine T.F_value_of.ok sc_value_of (fun vs H Q E h => ?_) (fun cdv AA outer s H vs Q E hr h => ?_)
  · obtain ⟨v, rfl, _⟩ := h
    rfl
  · obtain ⟨v, rfl, h⟩ := h
    refine ⟨_, (pss_cons (ps_if (pt_not (pt_val (pe_callB call_isi (by rfl) T.n_isinstance (by decide +kernel) (pa_cons (pv 0) (pa_cons (pe_bltn (v := .ty "str") (by rfl) T.n_str (by decide +kernel) rfl) pa_nil))))) (pss_one (ps_ret pe_non)) pss_nil)
      (pss_cons (ps_if (pt_cmpR op_eq (pv 0) pe_str (nomark _)) (pss_one (ps_ret pe_bl)) pss_nil)
      (pss_cons (ps_if (pt_cmpR op_eq (pv 0) pe_str (nomark _)) (pss_one (ps_ret pe_bl)) pss_nil)
      (pss_cons (ps_set (i := 1) sc_value_of.nd rfl (Or.inl rfl) (pe_m1 PySem.F.slot_str_startswith PySem.F.type_str_startswith mt_startswith (pv 0) pe_str))
      (pss_cons (ps_if (PW.pt (pw_or (pt_not (pt_val (pe_call G_plain_figures (hr.mono (by decide)) rfl T.g_plain_figures T.F_plain_figures.kp T.b_plain_figures .nil pass0 (pa_cons (pe_slice sl_str (pv 0) (po_some (pe_callTy call_int1 (by rfl) T.n_int (by decide +kernel) (pa_cons (pv 1) pa_nil))) po_none) pa_nil)))) (pw_or1 (pt_cmpR op_eq (pv 0) pe_str (nomark _))))) (pss_one (ps_ret pe_non)) pss_nil)
      (pss_cons (ps_set (i := 2) sc_value_of.nd rfl (Or.inl rfl) (pe_callTy call_int_str (by rfl) T.n_int (by decide +kernel) (pa_cons (pv 0) pa_nil)))
      (pss_cons (ps_if (pt_not (pt_chain op_le op_le (pe_un un_neg (pe_gcst rfl T.c_MOST)) (pv 2) (pe_gcst rfl T.c_MOST))) (pss_one (ps_ret pe_non)) pss_nil)
      (pss_one (ps_ret (pv 2)))))))))), ?_⟩
    rcases h with ⟨t, rfl, hl, k⟩ | ⟨n, ty, kb, k⟩
    · unfold valOf at k
      have hz : t.length ≤ sizeLine := Evl.sz_of (by omega)
      walk_at "ss"
      refine isi (ty_str t) kb_ss ?_
      walk_at "ss"
      rw [dec_s]
      refine if_cs (fun h1 => ?_) (fun h1 => ?_)
      · rw [if_pos (of_decide_eq_true h1)] at k
        walk_at "ss"
        exact k _ (Ex.refl _)
      rw [if_neg (of_decide_eq_false h1)] at k
      walk_at "ss"
      rw [dec_s]
      refine if_cs (fun h2 => ?_) (fun h2 => ?_)
      · rw [if_pos (of_decide_eq_true h2)] at k
        walk_at "ss"
        exact k _ (Ex.refl _)
      rw [if_neg (of_decide_eq_false h2)] at k
      walk_at "ss"
      refine ⟨⟨_, rfl⟩, ?_⟩
      walk_at "ss"
      rw [negC_is]
      walk_at "ss"
      refine .inr ⟨_, rfl, ?_⟩
      walk_at "ss"
      refine ⟨_, rfl, hz, ?_⟩
      walk_at "ss"
      refine ⟨_, rfl, Nat.le_trans (cutS_length _ _ _) hl, ?_⟩
      rw [fig_cut]
      intro H2 e2
      walk_at "ss"
      cases hp : plainC (figC (tl t)) with
      | false =>
        rw [if_pos hp] at k
        walk_at "ss"
        exact k _ e2
      | true =>
        rw [if_neg (by rw [hp]; decide)] at k
        obtain ⟨hi, h640⟩ := int_plain hp
        walk_at "ss"
        rw [dec_s]
        refine if_cs (fun h3 => ?_) (fun h3 => ?_)
        · rw [if_pos (of_decide_eq_true h3)] at k
          walk_at "ss"
          exact k _ e2
        rw [if_neg (of_decide_eq_false h3)] at k
        walk_at "ss"
        refine ⟨_, _, rfl, hi, h640, ?_⟩
        walk_at "ss"
        refine if_cs (fun h4 => ?_) (fun h4 => ?_)
        · have h4' : decide (-1000000000 ≤ numC (tl t)) = true := h4
          rw [h4', Bool.true_and] at k
          walk_at "ss"
          refine if_cs (fun h5 => ?_) (fun h5 => ?_)
          · rw [Bool.not_eq_true'] at h5
            rw [if_neg (by rw [h5]; decide)] at k
            walk_at "ss"
            exact k _ e2
          · rw [Bool.not_eq_false'] at h5
            rw [if_pos h5] at k
            walk_at "ss"
            exact k _ e2
        · have h4' : decide (-1000000000 ≤ numC (tl t)) = false := h4
          rw [h4', Bool.false_and, if_neg (by decide)] at k
          walk_at "ss"
          exact k _ e2
    · walk_at "ss"
      refine isi ty kb ?_
      walk_at "ss"
      exact k
def NB : V → Prop
  | .int i => -1000000000 ≤ i ∧ i ≤ 1000000000
  | .bl _ => True
  | _ => False
def textV : V → Str
  | .bl true => "true"
  | .bl false => "false"
  | .int i => Str.ofString (toString i)
  | _ => ""
def sp_value_text : Sp := fun vs H Q _ => ∃ (v : V), vs = [v] ∧ NB v ∧ Q (.str (textV v)) H
theorem ok_value_text (T : Txt K mg Z) : FnOk P w K mg base CX0 1 Z.f_value_text Z.fd_value_text ["value"] sp_value_text := by
  refine T.F_value_text.ok sc_value_text (fun vs H Q E h => ?_) (fun cdv AA outer s H vs Q E hr h => ?_)
  · obtain ⟨v, rfl, _⟩ := h
    rfl
  · obtain ⟨v, rfl, nv, k⟩ := h
    refine ⟨_, (pss_cons (ps_if (pt_cmpR op_isB (pv 0) pe_bl (nomark _)) (pss_one (ps_ret pe_str)) pss_nil)
      (pss_cons (ps_if (pt_cmpR op_isB (pv 0) pe_bl (nomark _)) (pss_one (ps_ret pe_str)) pss_nil)
      (pss_one (ps_ret (pe_callTy call_str_int (by rfl) T.n_str (by decide +kernel) (pa_cons (pv 0) pa_nil)))))), ?_⟩
    cases v with
    | int i =>
      walk_at "ss"
      refine ⟨_, rfl, rfl, ?_⟩
      walk_at "ss"
      refine if_ff rfl ?_
      walk_at "ss"
      refine ⟨_, rfl, rfl, ?_⟩
      walk_at "ss"
      refine if_ff rfl ?_
      walk_at "ss"
      refine ⟨?_, k⟩
      have h1 : -1000000000 ≤ i ∧ i ≤ 1000000000 := nv
      by_cases h0 : i.natAbs = 0
      · rw [h0]; decide
      · exact (Nat.log2_lt h0).mpr (Nat.lt_of_le_of_lt (show i.natAbs ≤ 2 ^ 30 by omega) (Nat.pow_lt_pow_right (by decide) (by decide)))
    | bl b =>
      cases b with
      | true =>
        walk_at "ss"
        refine ⟨_, rfl, rfl, ?_⟩
        walk_at "ss"
        refine if_tt rfl ?_
        walk_at "ss"
        exact k
      | false =>
        walk_at "ss"
        refine ⟨_, rfl, rfl, ?_⟩
        walk_at "ss"
        refine if_ff rfl ?_
        walk_at "ss"
        refine ⟨_, rfl, rfl, ?_⟩
        walk_at "ss"
        refine if_tt rfl ?_
        walk_at "ss"
        exact k
    | _ => exact nv.elim

/-! ### the law's own writing and reading -/
open TL (tl numL)
theorem dig_at {d : Int} (h0 : 0 ≤ d) (h1 : d < 10) : atI (tl "0123456789") d = some (48 + d.toNat) := by
  rw [tl_figs]
  obtain ⟨j, rfl⟩ := Int.eq_ofNat_of_zero_le h0
  have hj : j < 10 := by omega
  refine atI_nat ?_
  have key : ∀ j : Nat, j < 10 → figs10[j]? = some (48 + j) := by decide
  exact key j hj
theorem tl_text {i : Int} : tl (textV (.int i)) = (if i < 0 then [45] else []) ++ numL i.natAbs := by
  show tl (Str.ofString (toString i)) = _
  by_cases h : i < 0
  · rw [if_pos h, PyProof.Rows.toString_neg h, TL.tl_ofString, String.toList_append, List.map_append, ← TL.tl_ofString (toString (0 - i))]
    have e : (0 - i) = ((i.natAbs : Nat) : Int) := by omega
    rw [e, TL.tl_num]
    rfl
  · rw [if_neg h]
    have e : i = ((i.natAbs : Nat) : Int) := by omega
    conv => lhs; rw [e]
    rw [TL.tl_num]
    rfl
def sp_written_l (K : PySem.W.Frag) : Sp := fun vs H Q _ => ∃ (v : V), vs = [v] ∧ NB v ∧ RetV (.str (textV v)) H Q
theorem num_split {n : Nat} : numL n = (if 10 ≤ n then numL (n / 10) else []) ++ [48 + n % 10] := by
  by_cases h : 10 ≤ n
  · rw [if_pos h, TL.numL_step h]
  · rw [if_neg h, TL.numL_lt (by omega), Nat.mod_eq_of_lt (by omega)]
    rfl
theorem numL_len11 {n : Nat} (h : n ≤ 1000000000) : (numL n).length ≤ 10 := TL.numL_len (by decide) (by omega)
theorem ok_written_l (T : Txt K mg Z) : FnOk P w K mg base CX0 1 Z.f_written_l Z.fd_written_l ["_law_value_here"] (sp_written_l K) := by
  refine T.F_written_l.ok sc_written_l (fun vs H Q E h => ?_) (fun cdv AA outer s H vs Q E hr h => ?_)
  · obtain ⟨v, rfl, _⟩ := h
    rfl
  · obtain ⟨v, rfl, nv, k⟩ := h
    refine ⟨_, (pss_cons (ps_if (pt_val (pe_callB call_isi (by rfl) T.n_isinstance (by decide +kernel) (pa_cons (pv 0) (pa_cons (pe_bltn (v := .ty "bool") (by rfl) T.n_bool (by decide +kernel) rfl) pa_nil)))) (pss_one (ps_ret (pe_ix ix_list (pe_lst (pa_cons pe_str (pa_cons pe_str pa_nil))) (pe_callTy call_int1 (by rfl) T.n_int (by decide +kernel) (pa_cons (pv 0) pa_nil)) (fun _ _ => rfl)))) pss_nil)
      (pss_cons (ps_set (i := 1) sc_written_l.nd rfl (Or.inl rfl) (pe_callB call_abs (by rfl) T.n_abs (by decide +kernel) (pa_cons (pv 0) pa_nil)))
      (pss_cons (ps_set (i := 2) sc_written_l.nd rfl (Or.inl rfl) (pe_ix ix_str pe_str (pe_op op_mod (pv 1) pe_int) (fun _ _ => rfl)))
      (pss_cons (ps_while PassesOwn.never (pt_cmpR op_gt (pv 1) pe_int (nomark _)) (pss_cons (ps_set (i := 1) sc_written_l.nd rfl (Or.inl rfl) (pe_op op_fdiv (pv 1) pe_int))
      (pss_one (ps_set (i := 2) sc_written_l.nd rfl (Or.inl rfl) (pe_op op_add_str (pe_ix ix_str pe_str (pe_op op_mod (pv 1) pe_int) (fun _ _ => rfl)) (pv 2))))))
      (pss_one (ps_ret (pe_op op_add_str (pe_ix ix_list (pe_lst (pa_cons pe_str (pa_cons pe_str pa_nil))) (pe_callTy call_int1 (by rfl) T.n_int (by decide +kernel) (pa_cons (pe_cmpR op_lt (pv 0) pe_int (nomark _)) pa_nil)) (fun _ _ => rfl)) (pv 2)))))))), ?_⟩
    cases v with
    | bl b =>
      walk_at "ss"
      refine isi (ty_bl b) kb_bb ?_
      walk_at "ss"
      refine newL fun p H2 hp e2 h2 => ?_
      walk_at "ss"
      refine .inr ⟨_, rfl, ?_⟩
      walk_at "ss"
      refine c_ixL (SqL.of h2) (v := .str (textV (.bl b))) ?_ (k _ e2)
      cases b <;> rfl
    | int i =>
      have hb : -1000000000 ≤ i ∧ i ≤ 1000000000 := nv
      have ha : (if i < 0 then -i else i) = ((i.natAbs : Nat) : Int) := by split <;> omega
      walk_at "ss"
      refine isi (ty_int i) kb_ib ?_
      walk_at "ss"
      rw [ha]
      refine c_I (by decide) ?_
      refine c_ixS (by decide +kernel) (dig_at (Int.emod_nonneg _ (by decide)) (Int.emod_lt_of_pos _ (by decide))) ?_
      have hm : ∀ n : Nat, ((n : Int) % 10).toNat = n % 10 := fun n => by omega
      rw [hm]
      walk_at "ss"
      refine ⟨fun m σ' H' => ∃ (n : Nat) (x : Str), m = n ∧ σ' = [some (.int i), some (.int (n : Int)), some (.str x)] ∧ H' = H ∧ n ≤ 1000000000 ∧ (if 10 ≤ n then numL (n / 10) else []) ++ tl x = numL i.natAbs, ⟨i.natAbs, i.natAbs, _, rfl, rfl, rfl, by omega, ?_⟩, ?_⟩
      · rw [show tl ⟨#[48 + i.natAbs % 10]⟩ = [48 + i.natAbs % 10] from rfl, ← num_split]
      rintro m σ' H' ⟨n, x, rfl, rfl, rfl, hn, hx⟩
      have hxl : x.length ≤ 10 := by
        have e := congrArg List.length hx
        rw [List.length_append, tl_len] at e
        have := numL_len11 (n := i.natAbs) (by omega)
        omega
      walk_at "ss"
      refine if_cs (fun hc => ?_) (fun hc => ?_)
      · have h9 : (9 : Int) < m := of_decide_eq_true hc
        refine ⟨fun σ2 H2 => ∃ m', m' < m ∧ ∃ (n : Nat) (x : Str), m' = n ∧ σ2 = [some (.int i), some (.int (n : Int)), some (.str x)] ∧ H2 = H' ∧ n ≤ 1000000000 ∧ (if 10 ≤ n then numL (n / 10) else []) ++ tl x = numL i.natAbs, fun _ _ h => h, ?_⟩
        walk_at "ss"
        refine c_I ⟨by decide, by decide⟩ ?_
        walk_at "ss"
        have hd : (m : Int) / 10 = ((m / 10 : Nat) : Int) := by omega
        rw [hd]
        refine c_I (by decide) ?_
        refine c_ixS (by decide +kernel) (dig_at (Int.emod_nonneg _ (by decide)) (Int.emod_lt_of_pos _ (by decide))) ?_
        rw [hm]
        walk_at "ss"
        refine ⟨?_, ?_⟩
        · have : (⟨#[48 + m / 10 % 10]⟩ : Str).length = 1 := rfl
          exact Evl.sz_of (by omega)
        walk_at "ss"
        refine ⟨m / 10, by omega, m / 10, _, rfl, rfl, rfl, by omega, ?_⟩
        rw [TL.tl_append, show tl ⟨#[48 + m / 10 % 10]⟩ = [48 + m / 10 % 10] from rfl, ← List.append_assoc, ← num_split, ← hx, if_pos (by omega)]
      · have h9 : ¬ (9 : Int) < m := of_decide_eq_false hc
        rw [if_neg (by omega), List.nil_append] at hx
        walk_at "ss"
        refine newL fun p H2 hp e2 h2 => ?_
        walk_at "ss"
        refine .inr ⟨_, rfl, ?_⟩
        walk_at "ss"
        by_cases hi : i < 0
        · refine c_ixL (SqL.of h2) (v := .str "-") (by rw [decide_eq_true hi]; rfl) ?_
          walk_at "ss"
          refine ⟨Evl.sz_of (by have : (("-" : Str)).length = 1 := (by decide +kernel); omega), ?_⟩
          have et : ("-" : Str) ++ x = textV (.int i) := by
            refine TL.ext_tl ?_
            rw [TL.tl_append, hx, tl_text, if_pos hi]
            rfl
          rw [et]
          exact k _ e2
        · refine c_ixL (SqL.of h2) (v := .str "") (by rw [decide_eq_false hi]; rfl) ?_
          walk_at "ss"
          refine ⟨Evl.sz_of (by have : (("" : Str)).length = 0 := (by decide +kernel); omega), ?_⟩
          have et : ("" : Str) ++ x = textV (.int i) := by
            refine TL.ext_tl ?_
            rw [TL.tl_append, hx, tl_text, if_neg hi]
            rfl
          rw [et]
          exact k _ e2
    | _ => exact nv.elim

open TL (tl numL)
/-! what the reading comes to is what value_of tells -/
theorem val_non {t : Str} (n1 : t ≠ "true") (n2 : t ≠ "false") (h : plainC (figC (tl t)) = false) : valOf t = .non := by
  unfold valOf
  rw [if_neg n1, if_neg n2, if_pos h]
theorem fold_ge : ∀ (l : List Nat) (a : Nat), a * 10 ^ l.length ≤ l.foldl (fun acc c => acc * 10 + (c - 48)) a
  | [], a => by simp
  | c :: l, a => by
    have h := fold_ge l (a * 10 + (c - 48))
    rw [List.foldl_cons, List.length_cons, Nat.pow_succ]
    refine Nat.le_trans ?_ h
    rw [show a * (10 ^ l.length * 10) = (a * 10) * 10 ^ l.length by rw [Nat.mul_comm (10 ^ l.length) 10, Nat.mul_assoc]]
    exact Nat.mul_le_mul_right _ (by omega)
theorem val_fold (l : List Nat) : NumText.digitsVal l = l.foldl (fun acc c => acc * 10 + (c - 48)) 0 := rfl
/-- figures with no nought ahead: at least ten to the one less -/
theorem val_ge {f : List Nat} (hd : f.all digC = true) (h0 : f.take 1 ≠ [48]) (hl : 11 ≤ f.length) : 10000000000 ≤ NumText.digitsVal f := by
  match f, hd, h0, hl with
  | c :: l, hd, h0, hl =>
    rw [List.all_cons, Bool.and_eq_true] at hd
    have hc := dig_iff.mp hd.1
    have hc0 : c ≠ 48 := fun e => h0 (by rw [e]; rfl)
    rw [val_fold, List.foldl_cons]
    refine Nat.le_trans ?_ (fold_ge l _)
    have h10 : 10 ^ 10 ≤ 10 ^ l.length := Nat.pow_le_pow_right (by decide) (by rw [List.length_cons] at hl; omega)
    calc 10000000000 = 1 * 10 ^ 10 := by decide
      _ ≤ (0 * 10 + (c - 48)) * 10 ^ l.length := Nat.mul_le_mul (by omega) h10
theorem true_txt : tl "true" = [116, 114, 117, 101] := by decide +kernel
theorem false_txt : tl "false" = [102, 97, 108, 115, 101] := by decide +kernel
def sp_read_l : Sp := fun vs H Q _ => ∃ (t : Str), vs = [.str t] ∧ t.length ≤ 100 ∧ OkT t ∧ RetV (valOf t) H Q
theorem dig_ix {c : Nat} (h : digC c = true) : Builtin.Str.occurrences "0123456789" ⟨#[c]⟩ 0 ("0123456789" : Str).length 1 = [c - 48] := by
  have hc := dig_iff.mp h
  have key : ∀ j : Nat, j < 10 → Builtin.Str.occurrences "0123456789" ⟨#[48 + j]⟩ 0 ("0123456789" : Str).length 1 = [j] := by decide +kernel
  have := key (c - 48) (by omega)
  rw [show 48 + (c - 48) = c by omega] at this
  exact this
theorem neg_cut {t : Str} : tl (cutS t none (some 1)) = (tl t).take 1 := by
  rw [tl_cut, HT.sIx_none, List.drop_zero]
  have := HT.sIx_nat t.length t.length 1
  rw [show ((1 : Nat) : Int) = 1 from rfl] at this
  rw [this, Nat.sub_zero]
  by_cases h : 1 ≤ t.length
  · rw [Nat.min_eq_left h]
  · have e : t.length = 0 := by omega
    have e2 : tl t = [] := List.length_eq_zero_iff.mp (by rw [tl_len]; exact e)
    rw [e2]
    simp
theorem ok_read_l (T : Txt K mg Z) : FnOk P w K mg base CX0 1 Z.f_read_l Z.fd_read_l ["_law_thing"] sp_read_l := by
  refine T.F_read_l.ok sc_read_l (fun vs H Q E h => ?_) (fun cdv AA outer s H vs Q E hr h => ?_)
  · obtain ⟨t, rfl, _⟩ := h
    rfl
  · obtain ⟨t, rfl, hl, hok, k⟩ := h
    refine ⟨_, (pss_cons (ps_if (PW.pt (pw_or (pt_cmpR op_eq (pv 0) pe_str (nomark _)) (pw_or1 (pt_cmpR op_eq (pv 0) pe_str (nomark _))))) (pss_one (ps_ret (pe_cmpR op_eq (pv 0) pe_str (nomark _)))) pss_nil)
      (pss_cons (ps_if (PW.pt (pw_or (pt_not (pt_val (pe_callB call_isi (by rfl) T.n_isinstance (by decide +kernel) (pa_cons (pv 0) (pa_cons (pe_bltn (v := .ty "str") (by rfl) T.n_str (by decide +kernel) rfl) pa_nil))))) (pw_or1 (pt_cmpR op_gt (pe_callB call_len_str (by rfl) T.n_len (by decide +kernel) (pa_cons (pv 0) pa_nil)) pe_int (nomark _))))) (pss_one (ps_ret pe_non)) pss_nil)
      (pss_cons (ps_set (i := 1) sc_read_l.nd rfl (Or.inl rfl) (pe_slice sl_str (pv 0) (po_some (pe_callTy call_int1 (by rfl) T.n_int (by decide +kernel) (pa_cons (pe_cmpR op_eq (pe_slice sl_str (pv 0) po_none (po_some pe_int)) pe_str (nomark _)) pa_nil))) po_none))
      (pss_cons (ps_if (PW.pt (pw_or (pt_cmpR op_eq (pv 1) pe_str (nomark _)) (pw_or1 (pt_cmpR (op_neD hr.units) (pe_lc (own := [("_law_sign", 2)]) (g := (gName 2)) (tt := (tTest (tOp (fun x y H Q => ∃ (c : Nat) (z : Str), x = .str ⟨#[c]⟩ ∧ y = .str z ∧ Q (.bl (!decide (c ∈ z.cps.toList))) H) (tVar 2) (tC (.str "0123456789"))))) (te := (tVar 2)) rfl sc_read_l.nd (pi_str (pv 1)) (blkOk_by (own := [("_law_sign", 2)]) (N := N_read_l) (sc := defScope s_read_l) (by decide +kernel)) (fun _ _ _ _ _ => (pg_name (i := 2) sc_read_l.nd rfl (Or.inl rfl))) (fun _ _ _ _ _ => (pts_one (pt_cmpR op_notIn_sign (pv 2) pe_str (by rfl)))) (fun _ _ _ _ _ => (pv 2))) (pe_lst pa_nil) (nomark _))))) (pss_one (ps_ret pe_non)) pss_nil)
      (Evl.pss_cut (ps_if (PW.pt (pw_and (pt_cmpR op_eq (pe_ix ix_str (pv 1) pe_int (fun _ _ => rfl)) pe_str (nomark _)) (pw_and1 (pt_cmpR op_ne (pv 0) pe_str (nomark _))))) (pss_one (ps_ret pe_non)) pss_nil)
      (pss_cons (ps_set (i := 3) sc_read_l.nd rfl (Or.inl rfl) pe_int)
      (pss_cons (ps_for PassesOwn.never rfl (pi_str (pv 1)) (pg_name (i := 2) sc_read_l.nd rfl (Or.inl rfl)) (pss_one (ps_set (i := 3) sc_read_l.nd rfl (Or.inl rfl) (pe_op op_add (pe_op op_mul pe_int (pv 3)) (pe_m1 PySem.F.slot_str_index PySem.F.type_str_index mt_sindex pe_str (pv 2))))))
      (pss_cons (ps_if (pt_cmpR op_gt (pv 3) (pe_op op_pow pe_int pe_int) (nomark _)) (pss_one (ps_ret pe_non)) pss_nil)
      (pss_one (ps_ret (pe_ix ix_list (pe_lst (pa_cons (pv 3) (pa_cons (pe_op op_sub pe_int (pv 3)) pa_nil))) (pe_callTy call_int1 (by rfl) T.n_int (by decide +kernel) (pa_cons (pe_cmpR op_eq (pe_ix ix_str (pv 0) pe_int (fun _ _ => rfl)) pe_str (nomark _)) pa_nil)) (fun _ _ => rfl)))))))))))), ?_⟩
    have hz : t.length ≤ sizeLine := Evl.sz_of (by omega)
    walk_at "ss"
    rw [dec_s]
    by_cases h1 : t = "true"
    · refine if_tt (decide_eq_true h1) ?_
      walk_at "ss"
      rw [str_eq h1]
      rw [show valOf t = .bl true by unfold valOf; rw [if_pos h1]] at k
      exact k _ (Ex.refl _)
    refine if_ff (decide_eq_false h1) ?_
    walk_at "ss"
    by_cases h2 : t = "false"
    · refine if_tt (str_eq h2) ?_
      walk_at "ss"
      rw [str_ne h1]
      rw [show valOf t = .bl false by unfold valOf; rw [if_neg h1, if_pos h2]] at k
      exact k _ (Ex.refl _)
    refine if_ff (str_ne h2) ?_
    walk_at "ss"
    refine isi (ty_str t) kb_ss ?_
    walk_at "ss"
    refine ⟨hz, ?_⟩
    walk_at "ss"
    have hfl : (figC (tl t)).length ≤ t.length ∧ t.length ≤ (figC (tl t)).length + 1 := by
      unfold figC
      rw [List.length_drop, tl_len]
      split <;> omega
    refine if_cs (fun h11 => ?_) (fun h11 => ?_)
    · have h11' : (11 : Int) < t.length := of_decide_eq_true h11
      walk_at "ss"
      rw [val_non h1 h2 ?_] at k
      · exact k _ (Ex.refl _)
      · unfold plainC
        rw [decide_eq_false (show ¬ ((figC (tl t)).length : Int) ≤ 10 by omega), Bool.and_false]
        rfl
    have h11' : ¬ (11 : Int) < t.length := of_decide_eq_false h11
    walk_at "ss"
    refine c_slS (by omega) ?_
    walk_at "ss"
    rw [dec_txt, neg_cut]
    change _
    refine .inr ⟨_, rfl, ?_⟩
    walk_at "ss"
    refine c_slS (by omega) ?_
    walk_at "ss"
    have ef : tl (cutS t (some (if ((tl t).take 1 == tl "-") = true then 1 else 0)) none) = figC (tl t) := fig_cut
    generalize hx : cutS t (some (if ((tl t).take 1 == tl "-") = true then 1 else 0)) none = x at ef
    generalize hf : figC (tl t) = f at ef hfl k
    have hxl : x.length = f.length := by rw [← tl_len, ef]
    rw [dec_txt, ef]
    by_cases h0 : f = []
    · refine if_tt (by rw [h0]; rfl) ?_
      walk_at "ss"
      rw [val_non h1 h2 (by rw [hf, h0]; rfl)] at k
      exact k _ (Ex.refl _)
    refine if_ff (beq_eq_false_iff_ne.mpr h0) ?_
    walk_at "ss"
    refine lcS (fun c => if digC c = true then none else some (.str ⟨#[c]⟩)) (by omega) (fun c hc => ?_) ?_
    · intro H2 e2 R hR
      walk_at "ss"
      have e : decide (c ∈ (Str.ofString "0123456789").cps.toList) = digC c := by rw [show (Str.ofString "0123456789").cps.toList = figs10 from tl_figs]; rfl
      rw [e]
      cases hdc : digC c with
      | true =>
        rw [if_pos hdc] at hR
        walk_at "ss"
        exact hR _ (Ex.refl _)
      | false =>
        rw [if_neg (by rw [hdc]; decide)] at hR
        walk_at "ss"
        exact hR _ (Ex.refl _)
    intro p2 H2 hp2 e2 g2
    rw [ef] at g2
    walk_at "ss"
    refine newL fun p3 H3 hp3 e3 g3 => ?_
    cases hall : f.all digC with
    | false =>
      obtain ⟨c, hc, hcd⟩ : ∃ c ∈ f, digC c = false := by
        rw [List.all_eq_false] at hall
        obtain ⟨c, hc, h⟩ := hall
        exact ⟨c, hc, by simpa using h⟩
      have hne : f.filterMap (fun c => if digC c = true then none else some (V.str ⟨#[c]⟩)) ≠ [] := fun e => by
        have := List.filterMap_eq_nil_iff.mp e c hc
        rw [if_neg (by rw [hcd]; decide)] at this
        cases this
      have hal : (f.filterMap (fun c => if digC c = true then none else some (V.str ⟨#[c]⟩))).all okV = true := by
        rw [List.all_eq_true]
        intro v hv
        obtain ⟨c, hc, e⟩ := List.mem_filterMap.mp hv
        split at e
        · cases e
        · cases e
          refine okT_one (hok c ?_)
          rw [← hf] at hc
          exact List.mem_of_mem_drop hc
      refine c_neLs (SqL.of (e3 _ _ g2)) (SqL.of g3) hal rfl ?_
      have e0 : ∀ l : List V, l ≠ [] → eqL l [] = false := fun l hl => by
        cases l with
        | nil => exact absurd rfl hl
        | cons a l => rfl
      rw [e0 _ hne]
      walk_at "ss"
      rw [val_non h1 h2 (by rw [hf]; unfold plainC; rw [hall, Bool.and_false, Bool.false_and])] at k
      exact k _ (e2.trans e3)
    | true =>
      have hnil : f.filterMap (fun c => if digC c = true then none else some (V.str ⟨#[c]⟩)) = [] := by
        rw [List.filterMap_eq_nil_iff]
        intro c hc
        rw [if_pos (List.all_eq_true.mp hall c hc)]
      rw [hnil] at g2
      refine c_neLs (SqL.of (e3 _ _ g2)) (SqL.of g3) rfl rfl ?_
      rw [eqL_refl rfl]
      walk_at "ss"
      have e13 := e2.trans e3
      obtain ⟨c0, f', ef0⟩ : ∃ c0 f', f = c0 :: f' := by
        cases f with
        | nil => exact absurd rfl h0
        | cons a l => exact ⟨a, l, rfl⟩
      have t0 : tl t = [48] → t = "0" := fun h => TL.ext_tl (h.trans (by decide +kernel))
      have tm0 : tl t = [45, 48] → t = "-0" := fun h => TL.ext_tl (h.trans (by decide +kernel))
      have hcs : (negC (tl t) = true ∧ tl t = 45 :: f) ∨ (negC (tl t) = false ∧ tl t = f) := by
        rw [← hf]
        unfold figC
        cases hn : negC (tl t) with
        | true =>
          refine .inl ⟨rfl, ?_⟩
          rw [if_pos rfl]
          have e := beq_iff_eq.mp hn
          calc tl t = (tl t).take 1 ++ (tl t).drop 1 := (List.take_append_drop 1 _).symm
            _ = _ := by rw [e]; rfl
        | false =>
          refine .inr ⟨rfl, ?_⟩
          rw [if_neg (by decide), List.drop_zero]
      refine c_cut (M := fun σ' H' => (f.take 1 ≠ [48] ∨ t = "0") ∧ σ' = [some (.str t), some (.str x), none, none] ∧ H' = H3) ?_ ?_
      · walk_at "ss"
        refine c_ixS (by omega) (c := c0) (by rw [ef, ef0]; exact atI_nat (j := 0) rfl) ?_
        walk_at "ss"
        rw [dec_txt]
        have e48 : (tl ⟨#[c0]⟩ == tl "0") = (f.take 1 == [48]) := by rw [ef0]; rfl
        rw [e48]
        by_cases h48 : f.take 1 = [48]
        · refine if_tt (by rw [h48]; rfl) ?_
          walk_at "ss"
          by_cases ht0 : t = "0"
          · rw [str_eq ht0]
            walk_at "ss"
            exact ⟨.inr ht0, rfl, rfl⟩
          · rw [str_ne ht0]
            walk_at "ss"
            have hv : valOf t = .non := by
              cases hp : plainC f with
              | false => exact val_non h1 h2 (by rw [hf]; exact hp)
              | true =>
                obtain ⟨_, _, _, hor⟩ := plain_parts hp
                have ef48 : f = [48] := by
                  rcases hor with h | h
                  · exact h
                  · exact absurd h48 h
                have htm : t = "-0" := by
                  rcases hcs with ⟨_, h⟩ | ⟨_, h⟩
                  · exact tm0 (by rw [h, ef48])
                  · exact absurd (t0 (by rw [h, ef48])) ht0
                unfold valOf
                rw [if_neg h1, if_neg h2, hf, if_neg (by rw [hp]; decide), if_pos htm]
            rw [hv] at k
            exact k _ e13
        · refine if_ff (beq_eq_false_iff_ne.mpr h48) ?_
          walk_at "ss"
          exact ⟨.inl h48, rfl, rfl⟩
      rintro σ' H' ⟨hz0, rfl, rfl⟩
      walk_at "ss"
      refine forS (fun i σ' H'' => (∃ v, σ' = [some (.str t), some (.str x), v, some (.int ((NumText.digitsVal (f.take i) : Nat) : Int))]) ∧ H'' = H') ⟨⟨_, rfl⟩, rfl⟩ ?_ ?_
      · rintro i c σ' H'' hc ⟨⟨v, rfl⟩, rfl⟩
        rw [ef] at hc
        have hdc := List.all_eq_true.mp hall c (List.mem_of_getElem? hc)
        walk_at "ss"
        refine c_I (.inl ⟨by decide, by decide⟩) ?_
        walk_at "ss"
        refine ⟨⟨_, rfl⟩, ?_⟩
        walk_at "ss"
        refine ⟨_, _, _, _, rfl, rfl, dig_ix hdc, ?_⟩
        walk_at "ss"
        have es : f.take (i + 1) = f.take i ++ [c] := by rw [List.take_add_one, hc]; rfl
        have ev : NumText.digitsVal (f.take (i + 1)) = NumText.digitsVal (f.take i) * 10 + (c - 48) := by
          rw [es, val_fold, val_fold, List.foldl_append]
          rfl
        refine ⟨⟨some (.str ⟨#[c]⟩), ?_⟩, rfl⟩
        rw [ev]
        have : (10 : Int) * ((NumText.digitsVal (f.take i) : Nat) : Int) + ((c - 48 : Nat) : Int) = ((NumText.digitsVal (f.take i) * 10 + (c - 48) : Nat) : Int) := by omega
        rw [this]
        rfl
      · rintro σ' H'' ⟨⟨v, rfl⟩, rfl⟩
        rw [ef, List.take_length]
        walk_at "ss"
        refine c_I ⟨by decide, by decide, by decide⟩ ?_
        walk_at "ss"
        have hnum : numC (tl t) = if negC (tl t) = true then -((NumText.digitsVal f : Nat) : Int) else ((NumText.digitsVal f : Nat) : Int) := by
          unfold numC
          rw [hf]
        by_cases hbig : (1000000000 : Int) < ((NumText.digitsVal f : Nat) : Int)
        · refine if_tt (decide_eq_true hbig) ?_
          walk_at "ss"
          have hv : valOf t = .non := by
            cases hp : plainC f with
            | false => exact val_non h1 h2 (by rw [hf]; exact hp)
            | true =>
              unfold valOf
              rw [if_neg h1, if_neg h2, hf, if_neg (by rw [hp]; decide)]
              split
              · rfl
              · refine if_neg fun q => ?_
                rw [Bool.and_eq_true, decide_eq_true_eq, decide_eq_true_eq, hnum] at q
                split at q <;> omega
          rw [hv] at k
          exact k _ e13
        · refine if_ff (decide_eq_false hbig) ?_
          have hf1 : 1 ≤ f.length := by rw [ef0, List.length_cons]; omega
          have f48 : t = "0" → f = [48] := fun h => by
            rcases hcs with ⟨hn, _⟩ | ⟨_, h3⟩
            · rw [h] at hn
              exact absurd hn (by decide +kernel)
            · rw [← h3, h]
              decide +kernel
          have hf10 : f.length ≤ 10 := by
            rcases hz0 with h | h
            · by_cases h11 : 11 ≤ f.length
              · have := val_ge hall h h11
                omega
              · omega
            · rw [f48 h]
              decide
          have hp : plainC f = true := by
            unfold plainC
            rw [decide_eq_true (show (1 : Int) ≤ (f.length : Int) by omega), decide_eq_true (show (f.length : Int) ≤ 10 by omega), hall]
            rcases hz0 with h | h
            · rw [beq_eq_false_iff_ne.mpr h]
              simp
            · rw [f48 h]
              rfl
          have hm0 : t ≠ "-0" := fun h => by
            rcases hz0 with h3 | h3
            · refine h3 ?_
              rw [← hf, h]
              decide +kernel
            · rw [h] at h3
              exact absurd h3 (by decide +kernel)
          have hv : valOf t = .int (numC (tl t)) := by
            unfold valOf
            rw [if_neg h1, if_neg h2, hf, if_neg (by rw [hp]; decide), if_neg hm0, if_pos]
            rw [Bool.and_eq_true, decide_eq_true_eq, decide_eq_true_eq, hnum]
            split <;> omega
          rw [hv, hnum] at k
          walk_at "ss"
          refine newL fun p4 H4 hp4 e4 g4 => ?_
          walk_at "ss"
          obtain ⟨c1, r1, e1⟩ : ∃ c1 r1, tl t = c1 :: r1 := by
            rcases hcs with ⟨_, h⟩ | ⟨_, h⟩
            · exact ⟨_, _, h⟩
            · exact ⟨_, _, h.trans ef0⟩
          refine c_ixS (by omega) (c := c1) (by rw [e1]; exact atI_nat (j := 0) rfl) ?_
          walk_at "ss"
          rw [dec_txt]
          have eneg : (tl ⟨#[c1]⟩ == tl "-") = negC (tl t) := by rw [e1]; rfl
          rw [eneg]
          refine .inr ⟨_, rfl, ?_⟩
          walk_at "ss"
          cases hn : negC (tl t) with
          | true =>
            rw [hn, if_pos rfl] at k
            refine c_ixL (SqL.of g4) (v := .int (0 - ((NumText.digitsVal f : Nat) : Int))) rfl ?_
            rw [Int.zero_sub]
            exact k _ (e13.trans e4)
          | false =>
            rw [hn, if_neg (by decide)] at k
            refine c_ixL (SqL.of g4) (v := .int ((NumText.digitsVal f : Nat) : Int)) rfl ?_
            exact k _ (e13.trans e4)

open TL (tl numL)
/-- the same thing twice -/
def sp_same_l : Sp := fun vs H Q _ => ∃ (v : V), vs = [v, v] ∧ (v = .non ∨ NB v) ∧ Q (.bl true) H
theorem ok_same_l (T : Txt K mg Z) : FnOk P w K mg base CX0 1 Z.f_same_l Z.fd_same_l ["_law_found", "_law_due"] sp_same_l := by
  refine T.F_same_l.ok sc_same_l (fun vs H Q E h => ?_) (fun cdv AA outer s H vs Q E hr h => ?_)
  · obtain ⟨v, rfl, _⟩ := h
    rfl
  · obtain ⟨v, rfl, hv, k⟩ := h
    refine ⟨_, (pss_cons (ps_if (pt_cmpR op_isN (pv 1) pe_non (nomark _)) (pss_one (ps_ret (pe_cmpR op_isN (pv 0) pe_non (nomark _)))) pss_nil)
      (pss_one (ps_ret (pe_and (pe_cmpR op_eq (pe_callB call_isi (by rfl) T.n_isinstance (by decide +kernel) (pa_cons (pv 0) (pa_cons (pe_bltn (v := .ty "bool") (by rfl) T.n_bool (by decide +kernel) rfl) pa_nil))) (pe_callB call_isi (by rfl) T.n_isinstance (by decide +kernel) (pa_cons (pv 1) (pa_cons (pe_bltn (v := .ty "bool") (by rfl) T.n_bool (by decide +kernel) rfl) pa_nil))) (nomark _)) (pe_and (pe_callB call_isi (by rfl) T.n_isinstance (by decide +kernel) (pa_cons (pv 0) (pa_cons (pe_bltn (v := .ty "int") (by rfl) T.n_int (by decide +kernel) rfl) pa_nil))) (pe_one (pe_cmpR op_eq (pv 0) (pv 1) (nomark _)))))))), ?_⟩
    cases v with
    | non =>
      walk_at "ss"
      refine if_tt rfl ?_
      walk_at "ss"
      exact k
    | int i =>
      walk_at "ss"
      refine if_ff rfl ?_
      walk_at "ss"
      refine isi (ty_int i) kb_ib ?_
      walk_at "ss"
      refine isi (ty_int i) kb_ib ?_
      walk_at "ss"
      refine if_tt rfl ?_
      walk_at "ss"
      refine isi (ty_int i) kb_ii ?_
      walk_at "ss"
      rw [decide_eq_true rfl]
      exact k
    | bl b =>
      walk_at "ss"
      refine if_ff rfl ?_
      walk_at "ss"
      refine isi (ty_bl b) kb_bb ?_
      walk_at "ss"
      refine isi (ty_bl b) kb_bb ?_
      walk_at "ss"
      refine if_tt rfl ?_
      walk_at "ss"
      refine isi (ty_bl b) kb_bi ?_
      walk_at "ss"
      rw [decide_eq_true rfl]
      exact k
    | _ => rcases hv with h | h <;> first | cases h | exact h.elim
def sp_value_l : Sp := fun vs H Q _ => ∃ (b : Addr), vs = [.ref b] ∧ BoxAt H b ∧ ∀ v H2, NB v → ExB b H H2 → BoxAt H2 b → Q v H2
theorem ok_value_l (T : Txt K mg Z) : FnOk P w K mg base CX0 2 Z.f_value_l Z.fd_value_l ["_law_box_here"] sp_value_l := by
  have G_take_l := ok_take_l (P := P) (w := w) (base := base) T
  refine T.F_value_l.ok sc_value_l (fun vs H Q E h => ?_) (fun cdv AA outer s H vs Q E hr h => ?_)
  · obtain ⟨b, rfl, _⟩ := h
    rfl
  · obtain ⟨b, rfl, hB, k⟩ := h
    refine ⟨_, (pss_cons (ps_set (i := 1) sc_value_l.nd rfl (Or.inl rfl) (pe_op op_pow pe_int pe_int))
      (pss_cons (ps_set (i := 2) sc_value_l.nd rfl (Or.inl rfl) (pe_lst (pa_cons pe_int (pa_cons pe_int (pa_cons (pe_un un_neg pe_int) (pa_cons (pv 1) (pa_cons (pe_op op_sub pe_int (pv 1)) (pa_cons (pe_op op_sub (pv 1) pe_int) (pa_cons (pe_op op_sub pe_int (pv 1)) (pa_cons pe_int (pa_cons pe_int (pa_cons pe_bl (pa_cons pe_bl pa_nil)))))))))))))
      (pss_cons (ps_set (i := 3) sc_value_l.nd rfl (Or.inl rfl) (pe_call G_take_l (hr.mono (by decide)) rfl T.g_take_l T.F_take_l.kp T.b_take_l .nil pass0 (pa_cons (pv 0) (pa_cons (pe_ix ix_list (pe_lst (pa_cons pe_int (pa_cons pe_int (pa_cons (pe_op op_pow pe_int pe_int) (pa_cons (pe_op op_add (pe_op op_pow pe_int pe_int) pe_int) pa_nil))))) (pe_call G_take_l (hr.mono (by decide)) rfl T.g_take_l T.F_take_l.kp T.b_take_l .nil pass0 (pa_cons (pv 0) (pa_cons pe_int pa_nil))) (fun _ _ => rfl)) pa_nil))))
      (pss_one (ps_ret (pe_ix ix_list (pe_op op_cat (pv 2) (pe_lst (pa_cons (pv 3) (pa_cons (pe_op op_sub pe_int (pv 3)) (pa_cons (pv 3) pa_nil))))) (pe_call G_take_l (hr.mono (by decide)) rfl T.g_take_l T.F_take_l.kp T.b_take_l .nil pass0 (pa_cons (pv 0) (pa_cons pe_int pa_nil))) (fun _ _ => rfl))))))), ?_⟩
    walk_at "ss"
    refine c_I ⟨by decide, by decide, by decide⟩ ?_
    walk_at "ss"
    refine newL fun n1 H1 hn1 e1 h1 => ?_
    walk_at "ss"
    refine c_I ⟨by decide, by decide, by decide⟩ ?_
    walk_at "ss"
    refine c_I ⟨by decide, by decide, by decide⟩ ?_
    walk_at "ss"
    refine newL fun n2 H2 hn2 e2 h2 => ?_
    walk_at "ss"
    have hB2 := (hB.ex e1).ex e2
    refine ⟨b, 4, rfl, hB2, by decide, by decide, fun d H3 d0 d1 x3 hB3 => ?_⟩
    walk_at "ss"
    have n2b : n2 ≠ b := box_ne hB2 h2 (by intro x y z q; cases q)
    obtain ⟨v, ha, hv⟩ := at_in (xs := [.int 10, .int 100, .int (10 ^ Int.toNat 4), .int (10 ^ Int.toNat 9 + 1)]) d0 d1
    obtain ⟨m, rfl, m0, m1⟩ : ∃ m, v = .int m ∧ 0 < m ∧ m ≤ 1000000001 := by
      simp only [List.mem_cons, List.not_mem_nil, or_false] at hv
      rcases hv with rfl | rfl | rfl | rfl
      all_goals exact ⟨_, rfl, by decide, by decide⟩
    refine c_ixL (SqL.of (x3 _ _ n2b h2)) ha ?_
    walk_at "ss"
    refine ⟨b, m, rfl, hB3, m0, by omega, fun d2 H4 d20 d21 x4 hB4 => ?_⟩
    walk_at "ss"
    refine newL fun n3 H5 hn3 e5 h5 => ?_
    walk_at "ss"
    have n1b : n1 ≠ b := box_ne (hB.ex e1) h1 (by intro x y z q; cases q)
    have g1 := e5 _ _ (x4 _ _ n1b (x3 _ _ n1b (e2 _ _ h1)))
    refine c_cat g1 h5 fun n4 H6 hn4 e6 h6 => ?_
    walk_at "ss"
    refine ⟨b, 14, rfl, (hB4.ex e5).ex e6, by decide, by decide, fun d3 H7 d30 d31 x7 hB7 => ?_⟩
    walk_at "ss"
    have n4b : n4 ≠ b := fun q => by
      obtain ⟨_, _, _, _, q2⟩ := hB4.ex e5
      rw [q, q2] at hn4
      cases hn4
    obtain ⟨v, ha, hv⟩ := at_in (xs := [.int 0, .int 1, .int (-1), .int (10 ^ Int.toNat 9), .int (0 - 10 ^ Int.toNat 9), .int (10 ^ Int.toNat 9 - 1), .int (1 - 10 ^ Int.toNat 9), .int 10, .int 99, .bl true, .bl false, .int d2, .int (0 - d2), .int d2]) d30 d31
    refine c_ixL (SqL.of (x7 _ _ n4b h6)) ha ?_
    have nm : NB v := by
      simp only [List.mem_cons, List.not_mem_nil, or_false] at hv
      rcases hv with rfl | rfl | rfl | rfl | rfl | rfl | rfl | rfl | rfl | rfl | rfl | rfl | rfl | rfl
      all_goals first | trivial | exact ⟨by decide, by decide⟩ | exact ⟨by omega, by omega⟩
    walk_at "ss"
    refine k v H7 nm ?_ hB7
    exact (((((ExB.of e1).ex e2).trans x3).trans x4).ex (e5.trans e6)).trans x7
def sp_spoilt_l : Sp := fun vs H Q _ => ∃ (b : Addr) (t : Str), vs = [.ref b, .str t] ∧ BoxAt H b ∧ t.length ≤ 45 ∧ OkT t ∧ ∀ u H2, u.length ≤ 100 → OkT u → ExB b H H2 → BoxAt H2 b → Q (.str u) H2
theorem ok_spoilt_l (T : Txt K mg Z) : FnOk P w K mg base CX0 2 Z.f_spoilt_l Z.fd_spoilt_l ["_law_box_here", "_law_text"] sp_spoilt_l := by
  have G_take_l := ok_take_l (P := P) (w := w) (base := base) T
  refine T.F_spoilt_l.ok sc_spoilt_l (fun vs H Q E h => ?_) (fun cdv AA outer s H vs Q E hr h => ?_)
  · obtain ⟨b, t, rfl, _⟩ := h
    rfl
  · obtain ⟨b, t, rfl, hB, hl, hok, k⟩ := h
    refine ⟨_, (pss_cons (ps_set (i := 2) sc_spoilt_l.nd rfl (Or.inl rfl) (pe_call G_take_l (hr.mono (by decide)) rfl T.g_take_l T.F_take_l.kp T.b_take_l .nil pass0 (pa_cons (pv 0) (pa_cons (pe_op op_add (pe_callB call_len_str (by rfl) T.n_len (by decide +kernel) (pa_cons (pv 1) pa_nil)) pe_int) pa_nil))))
      (pss_cons (ps_set (i := 3) sc_spoilt_l.nd rfl (Or.inl rfl) (pe_ix ix_list (pe_lst (pa_cons pe_str (pa_cons pe_str (pa_cons pe_str (pa_cons pe_str (pa_cons pe_str (pa_cons pe_str (pa_cons pe_str (pa_cons pe_str (pa_cons pe_str pa_nil)))))))))) (pe_call G_take_l (hr.mono (by decide)) rfl T.g_take_l T.F_take_l.kp T.b_take_l .nil pass0 (pa_cons (pv 0) (pa_cons pe_int pa_nil))) (fun _ _ => rfl)))
      (pss_cons (ps_set (i := 4) sc_spoilt_l.nd rfl (Or.inl rfl) (pe_lst (pa_cons (pe_op op_add_str (pe_op op_add_str (pe_slice sl_str (pv 1) po_none (po_some (pv 2))) (pv 3)) (pe_slice sl_str (pv 1) (po_some (pv 2)) po_none)) (pa_cons (pe_op op_add_str (pe_slice sl_str (pv 1) po_none (po_some (pv 2))) (pe_slice sl_str (pv 1) (po_some (pe_op op_add (pv 2) pe_int)) po_none)) (pa_cons (pe_op op_add_str (pe_op op_add_str (pe_slice sl_str (pv 1) po_none (po_some (pv 2))) (pv 3)) (pe_slice sl_str (pv 1) (po_some (pe_op op_add (pv 2) pe_int)) po_none)) pa_nil)))))
      (pss_one (ps_ret (pe_ix ix_list (pv 4) (pe_call G_take_l (hr.mono (by decide)) rfl T.g_take_l T.F_take_l.kp T.b_take_l .nil pass0 (pa_cons (pv 0) (pa_cons pe_int pa_nil))) (fun _ _ => rfl))))))), ?_⟩
    walk_at "ss"
    refine ⟨Evl.sz_of (by omega), ?_⟩
    walk_at "ss"
    refine ⟨b, _, rfl, hB, by omega, by omega, fun at_ H1 a0 a1 x1 hB1 => ?_⟩
    walk_at "ss"
    refine newL fun n2 H2 hn2 e2 h2 => ?_
    walk_at "ss"
    refine ⟨b, 9, rfl, hB1.ex e2, by decide, by decide, fun d H3 d0 d1 x3 hB3 => ?_⟩
    walk_at "ss"
    have n2b : n2 ≠ b := box_ne (hB1.ex e2) h2 (by intro x y z q; cases q)
    obtain ⟨v, ha, hv⟩ := at_in (xs := [.str "0", .str " ", .str "-", .str "+", .str "a", .str ".", .str "\n", .str "9", .str "_"]) d0 d1
    obtain ⟨sg, rfl, sl, so⟩ : ∃ sg : Str, v = .str sg ∧ sg.length = 1 ∧ OkT sg := by
      simp only [List.mem_cons, List.not_mem_nil, or_false] at hv
      rcases hv with rfl | rfl | rfl | rfl | rfl | rfl | rfl | rfl | rfl
      all_goals exact ⟨_, rfl, by decide +kernel, OkT.lit (by decide +kernel)⟩
    refine c_ixL (SqL.of (x3 _ _ n2b h2)) ha ?_
    walk_at "ss"
    have cl : ∀ lo hi, (cutS t lo hi).length ≤ 45 := fun lo hi => Nat.le_trans (cutS_length _ _ _) hl
    refine c_slS (by omega) ?_
    walk_at "ss"
    refine ⟨Evl.sz_of (by have := cl none (some at_); omega), ?_⟩
    walk_at "ss"
    refine c_slS (by omega) ?_
    walk_at "ss"
    refine ⟨Evl.sz_of (by rw [add_len]; have := cl none (some at_); have := cl (some at_) none; omega), ?_⟩
    walk_at "ss"
    refine c_slS (by omega) ?_
    walk_at "ss"
    refine c_slS (by omega) ?_
    walk_at "ss"
    refine ⟨Evl.sz_of (by have := cl none (some at_); have := cl (some (at_ + 1)) none; omega), ?_⟩
    walk_at "ss"
    refine c_slS (by omega) ?_
    walk_at "ss"
    refine ⟨Evl.sz_of (by have := cl none (some at_); omega), ?_⟩
    walk_at "ss"
    refine c_slS (by omega) ?_
    walk_at "ss"
    refine ⟨Evl.sz_of (by rw [add_len]; have := cl none (some at_); have := cl (some (at_ + 1)) none; omega), ?_⟩
    walk_at "ss"
    refine newL fun n4 H4 hn4 e4 h4 => ?_
    walk_at "ss"
    refine ⟨b, 3, rfl, hB3.ex e4, by decide, by decide, fun d2 H5 d20 d21 x5 hB5 => ?_⟩
    walk_at "ss"
    have n4b : n4 ≠ b := box_ne (hB3.ex e4) h4 (by intro x y z q; cases q)
    obtain ⟨v, ha, hv⟩ := at_in (xs := [.str (cutS t none (some at_) ++ sg ++ cutS t (some at_) none), .str (cutS t none (some at_) ++ cutS t (some (at_ + 1)) none), .str (cutS t none (some at_) ++ sg ++ cutS t (some (at_ + 1)) none)]) d20 d21
    refine c_ixL (SqL.of (x5 _ _ n4b h4)) ha ?_
    obtain ⟨u, rfl, ul, uo⟩ : ∃ u : Str, v = .str u ∧ u.length ≤ 100 ∧ OkT u := by
      have c1 := cl none (some at_)
      have c2 := cl (some at_) none
      have c3 := cl (some (at_ + 1)) none
      simp only [List.mem_cons, List.not_mem_nil, or_false] at hv
      rcases hv with rfl | rfl | rfl
      · exact ⟨_, rfl, by rw [add_len, add_len]; omega, ((hok.cut _ _).app so).app (hok.cut _ _)⟩
      · exact ⟨_, rfl, by rw [add_len]; omega, (hok.cut _ _).app (hok.cut _ _)⟩
      · exact ⟨_, rfl, by rw [add_len, add_len]; omega, ((hok.cut _ _).app so).app (hok.cut _ _)⟩
    walk_at "ss"
    exact k u H5 ul uo (((x1.ex e2).trans x3).trans ((ExB.of e4).trans x5)) hB5

theorem valOf_text {v : V} (h : NB v) : valOf (textV v) = v ∧ (textV v).length ≤ 45 ∧ OkT (textV v) := by
  cases v with
  | bl b => cases b <;> exact ⟨by decide +kernel, by decide +kernel, OkT.lit (by decide +kernel)⟩
  | int i =>
    have hb : -1000000000 ≤ i ∧ i ≤ 1000000000 := h
    have ht := tl_text (i := i)
    have hd := TL.numL_digits i.natAbs
    have hne := TL.numL_ne i.natAbs
    have hlen := numL_len11 (n := i.natAbs) (by omega)
    have hall : (numL i.natAbs).all digC = true := List.all_eq_true.mpr fun c hc => dig_iff.mpr (hd c hc)
    have hl1 : 1 ≤ (numL i.natAbs).length := by
      cases e : numL i.natAbs with
      | nil => exact absurd e hne
      | cons a l => rw [List.length_cons]; omega
    have hneg : negC (tl (textV (.int i))) = decide (i < 0) := by
      rw [ht]
      by_cases hi : i < 0
      · rw [if_pos hi, decide_eq_true hi]
        unfold negC
        cases numL i.natAbs <;> rfl
      · rw [if_neg hi, decide_eq_false hi, List.nil_append]
        unfold negC
        refine beq_eq_false_iff_ne.mpr fun e => ?_
        cases e2 : numL i.natAbs with
        | nil => exact hne e2
        | cons a l =>
          rw [e2] at e
          have ha : a = 45 := by simpa using e
          have := hd a (by rw [e2]; exact List.mem_cons_self)
          omega
    have hfig : figC (tl (textV (.int i))) = numL i.natAbs := by
      unfold figC
      rw [hneg, ht]
      by_cases hi : i < 0
      · rw [if_pos hi, decide_eq_true hi, if_pos rfl]; rfl
      · rw [if_neg hi, decide_eq_false hi, if_neg (by decide)]; rfl
    have hzero : ∀ n : Nat, (numL n).take 1 = [48] → n = 0 := by
      intro n
      induction n using Nat.strongRecOn with
      | _ n ih =>
        intro e
        by_cases h10 : 10 ≤ n
        · rw [TL.numL_step h10] at e
          have hne2 := TL.numL_ne (n / 10)
          have e2 : (numL (n / 10)).take 1 = [48] := by
            cases e3 : numL (n / 10) with
            | nil => exact absurd e3 hne2
            | cons a l => rw [e3] at e; simpa using e
          have := ih (n / 10) (by omega) e2
          omega
        · rw [TL.numL_lt (by omega)] at e
          have : 48 + n = 48 := by simpa using e
          omega
    have hplain : plainC (numL i.natAbs) = true := by
      unfold plainC
      rw [decide_eq_true (show (1 : Int) ≤ ((numL i.natAbs).length : Int) by omega), decide_eq_true (show ((numL i.natAbs).length : Int) ≤ 10 by omega), hall]
      by_cases h48 : (numL i.natAbs).take 1 = [48]
      · rw [hzero _ h48]
        decide +kernel
      · rw [beq_eq_false_iff_ne.mpr h48]
        simp
    have hnum : numC (tl (textV (.int i))) = i := by
      unfold numC
      rw [hfig, hneg, TL.numL_val]
      by_cases hi : i < 0
      · rw [decide_eq_true hi, if_pos rfl]; omega
      · rw [decide_eq_false hi, if_neg (by decide)]; omega
    have hokc : ∀ c, c ∈ tl (textV (.int i)) → c = 45 ∨ (48 ≤ c ∧ c ≤ 57) := fun c hc => by
      rw [ht] at hc
      rcases List.mem_append.mp hc with h | h
      · split at h
        · exact .inl (by simpa using h)
        · cases h
      · exact .inr (hd c h)
    have n1 : textV (.int i) ≠ "true" := fun e => by
      have := hokc 116 (by rw [e]; decide +kernel)
      omega
    have n2 : textV (.int i) ≠ "false" := fun e => by
      have := hokc 102 (by rw [e]; decide +kernel)
      omega
    have n3 : textV (.int i) ≠ "-0" := fun e => by
      have h0 : i = 0 := by rw [← hnum, e]; decide +kernel
      rw [h0] at e
      exact absurd e (by decide +kernel)
    refine ⟨?_, ?_, fun c hc => ?_⟩
    · unfold valOf
      rw [if_neg n1, if_neg n2, hfig, if_neg (by rw [hplain]; decide), if_neg n3, hnum, if_pos]
      rw [decide_eq_true hb.1, decide_eq_true hb.2]
      rfl
    · rw [← tl_len, ht, List.length_append]
      split
      · rw [List.length_singleton]; omega
      · rw [List.length_nil]; omega
    · have := hokc c hc
      omega
  | _ => exact h.elim
theorem valOf_kind (t : Str) : valOf t = .non ∨ NB (valOf t) := by
  unfold valOf
  split
  · exact .inr trivial
  · split
    · exact .inr trivial
    · split
      · exact .inl rfl
      · split
        · exact .inl rfl
        · split
          · rename_i h
            rw [Bool.and_eq_true, decide_eq_true_eq, decide_eq_true_eq] at h
            exact .inr h
          · exact .inl rfl
theorem valOf_long {t : Str} (h : 11 < t.length) : valOf t = .non := by
  have h1 : t ≠ "true" := fun e => by rw [e] at h; exact absurd h (by decide +kernel)
  have h2 : t ≠ "false" := fun e => by rw [e] at h; exact absurd h (by decide +kernel)
  refine val_non h1 h2 ?_
  have hfl : t.length ≤ (figC (tl t)).length + 1 := by
    unfold figC
    rw [List.length_drop, tl_len]
    split <;> omega
  unfold plainC
  rw [decide_eq_false (show ¬ ((figC (tl t)).length : Int) ≤ 10 by omega), Bool.and_false]
  rfl
theorem kb_ns : kitB "NoneType" "str" = some false := by decide +kernel
theorem kb_is : kitB "int" "str" = some false := by decide +kernel
theorem kb_bs : kitB "bool" "str" = some false := by decide +kernel
theorem kb_ls : kitB "list" "str" = some false := by decide +kernel
theorem kb_ts : kitB "tuple" "str" = some false := by decide +kernel
theorem kb_ds : kitB "dict" "str" = some false := by decide +kernel
def sp_law (K : PySem.W.Frag) : Sp := fun vs H Q _ => ∃ (a : Addr) (ns : List Int), vs = [.ref a] ∧ SqL K H a (ns.map V.int) ∧ ns.length ≤ 63 ∧ ∀ H', Q (.bl true) H'
theorem ok_law (T : Txt K mg Z) : FnOk P w K mg base CX0 3 Z.f_law Z.fd_law ["_law_script"] (sp_law K) := by
  have G_value_text := ok_value_text (P := P) (w := w) (base := base) T
  have G_value_of := ok_value_of (P := P) (w := w) (base := base) T
  have G_cell_at_l := ok_cell_at_l (P := P) (w := w) (base := base) T
  have G_box_l := ok_box_l (P := P) (w := w) (base := base) T
  have G_take_l := ok_take_l (P := P) (w := w) (base := base) T
  have G_written_l := ok_written_l (P := P) (w := w) (base := base) T
  have G_read_l := ok_read_l (P := P) (w := w) (base := base) T
  have G_same_l := ok_same_l (P := P) (w := w) (base := base) T
  have G_value_l := ok_value_l (P := P) (w := w) (base := base) T
  have G_spoilt_l := ok_spoilt_l (P := P) (w := w) (base := base) T
  refine T.F_law.ok sc_law (fun vs H Q E h => ?_) (fun cdv AA outer s H vs Q E hr h => ?_)
  · obtain ⟨a, ns, rfl, _⟩ := h
    rfl
  · obtain ⟨a, ns, rfl, hS, hl, k⟩ := h
    refine ⟨_, (pss_cons (ps_for PassesOwn.never rfl (pi_range1 (by rfl) T.n_range (pa_cons (pe_callB (call_max2 rfl) (by rfl) T.n_max (by decide +kernel) (pa_cons pe_int (pa_cons (pe_callB (call_min2 rfl) (by rfl) T.n_min (by decide +kernel) (pa_cons pe_int (pa_cons (pe_callB call_len_seq (by rfl) T.n_len (by decide +kernel) (pa_cons (pv 0) pa_nil)) pa_nil))) pa_nil))) pa_nil)) (pg_name (i := 1) sc_law.nd rfl (Or.inl rfl)) (pss_cons (ps_set (i := 2) sc_law.nd rfl (Or.inl rfl) (pe_call G_box_l (hr.mono (by decide)) rfl T.g_box_l T.F_box_l.kp T.b_box_l .nil pass0 (pa_cons (pe_call G_cell_at_l (hr.mono (by decide)) rfl T.g_cell_at_l T.F_cell_at_l.kp T.b_cell_at_l .nil pass0 (pa_cons (pv 0) (pa_cons (pv 1) pa_nil))) pa_nil)))
      (pss_cons (ps_set (i := 3) sc_law.nd rfl (Or.inl rfl) (pe_call G_value_l (hr.mono (by decide)) rfl T.g_value_l T.F_value_l.kp T.b_value_l .nil pass0 (pa_cons (pv 2) pa_nil)))
      (pss_cons (ps_set (i := 4) sc_law.nd rfl (Or.inl rfl) (pe_call G_written_l (hr.mono (by decide)) rfl T.g_written_l T.F_written_l.kp T.b_written_l .nil pass0 (pa_cons (pv 3) pa_nil)))
      (Evl.pss_cut (ps_if (PW.pt (pw_and (pt_cmpR op_eq (pe_call G_take_l (hr.mono (by decide)) rfl T.g_take_l T.F_take_l.kp T.b_take_l .nil pass0 (pa_cons (pv 2) (pa_cons pe_int pa_nil))) pe_int (nomark _)) (pw_and1 (pt_not (pt_val (pe_call G_same_l (hr.mono (by decide)) rfl T.g_same_l T.F_same_l.kp T.b_same_l .nil pass0 (pa_cons (pe_call G_value_of (hr.mono (by decide)) rfl T.g_value_of T.F_value_of.kp T.b_value_of .nil pass0 (pa_cons (pv 4) pa_nil)) (pa_cons (pv 3) pa_nil)))))))) (pss_one (ps_ret pe_bl)) pss_nil)
      (pss_cons (ps_if (PW.pt (pw_or (pt_cmpR op_ne (pe_call G_value_text (hr.mono (by decide)) rfl T.g_value_text T.F_value_text.kp T.b_value_text .nil pass0 (pa_cons (pv 3) pa_nil)) (pv 4) (nomark _)) (pw_or1 (pt_not (pt_val (pe_call G_same_l (hr.mono (by decide)) rfl T.g_same_l T.F_same_l.kp T.b_same_l .nil pass0 (pa_cons (pe_call G_value_of (hr.mono (by decide)) rfl T.g_value_of T.F_value_of.kp T.b_value_of .nil pass0 (pa_cons (pv 4) pa_nil)) (pa_cons (pv 3) pa_nil)))))))) (pss_one (ps_ret pe_bl)) pss_nil)
      (pss_one (ps_for PassesOwn.never rfl (pi_range1 (by rfl) T.n_range (pa_cons pe_int pa_nil)) (pg_name (i := 5) sc_law.nd rfl (Or.inl rfl)) (pss_cons (ps_set (i := 6) sc_law.nd rfl (Or.inl rfl) (pe_call G_spoilt_l (hr.mono (by decide)) rfl T.g_spoilt_l T.F_spoilt_l.kp T.b_spoilt_l .nil pass0 (pa_cons (pv 2) (pa_cons (pv 4) pa_nil))))
      (pss_one (ps_if (pt_not (pt_val (pe_call G_same_l (hr.mono (by decide)) rfl T.g_same_l T.F_same_l.kp T.b_same_l .nil pass0 (pa_cons (pe_call G_value_of (hr.mono (by decide)) rfl T.g_value_of T.F_value_of.kp T.b_value_of .nil pass0 (pa_cons (pv 6) pa_nil)) (pa_cons (pe_call G_read_l (hr.mono (by decide)) rfl T.g_read_l T.F_read_l.kp T.b_read_l .nil pass0 (pa_cons (pv 6) pa_nil)) pa_nil))))) (pss_one (ps_ret pe_bl)) pss_nil)))))))))))
      (pss_cons (ps_for PassesOwn.never rfl (pi_list (pe_lst (pa_cons pe_str (pa_cons pe_str (pa_cons (pe_op op_rep_str pe_str pe_int) (pa_cons (pe_op op_rep_str pe_str pe_int) (pa_cons pe_str (pa_cons pe_str (pa_cons pe_str (pa_cons pe_str (pa_cons pe_str (pa_cons pe_str (pa_cons pe_str (pa_cons pe_str pa_nil)))))))))))))) (pg_name (i := 4) sc_law.nd rfl (Or.inl rfl)) (pss_one (ps_if (pt_cmpR op_notN (pe_call G_value_of (hr.mono (by decide)) rfl T.g_value_of T.F_value_of.kp T.b_value_of .nil pass0 (pa_cons (pv 4) pa_nil)) pe_non (nomark _)) (pss_one (ps_ret pe_bl)) pss_nil)))
      (pss_cons (ps_for PassesOwn.never rfl (pi_list (pe_lst (pa_cons pe_non (pa_cons pe_int (pa_cons pe_bl (pa_cons (pe_lst (pa_cons pe_str pa_nil)) (pa_cons (pe_tup (pa_cons pe_str pa_nil)) (pa_cons pe_dnewK pa_nil)))))))) (pg_name (i := 7) sc_law.nd rfl (Or.inl rfl)) (pss_one (ps_if (pt_cmpR op_notN (pe_call G_value_of (hr.mono (by decide)) rfl T.g_value_of T.F_value_of.kp T.b_value_of .nil pass0 (pa_cons (pv 7) pa_nil)) pe_non (nomark _)) (pss_one (ps_ret pe_bl)) pss_nil)))
      (pss_one (ps_ret (pe_and (pe_cmpR op_eq (pe_call G_value_of (hr.mono (by decide)) rfl T.g_value_of T.F_value_of.kp T.b_value_of .nil pass0 (pa_cons pe_str pa_nil)) (pe_op op_pow pe_int pe_int) (nomark _)) (pe_one (pe_cmpR op_eq (pe_call G_value_of (hr.mono (by decide)) rfl T.g_value_of T.F_value_of.kp T.b_value_of .nil pass0 (pa_cons pe_str pa_nil)) (pe_op op_sub pe_int (pe_op op_pow pe_int pe_int)) (nomark _))))))))), ?_⟩
    walk_at "ss"
    refine ⟨_, _, rfl, .inl hS, ?_⟩
    walk_at "ss"
    refine ⟨_, _, rfl, ?_⟩
    walk_at "ss"
    refine ⟨_, _, rfl, ?_⟩
    walk_at "ss"
    refine ⟨by split <;> split <;> omega, by split <;> split <;> omega, ?_⟩
    refine forR (fun i σ' H' => (∃ v1 v2 v3 v4 v5 v6 v7, σ' = [some (.ref a), v1, v2, v3, v4, v5, v6, v7]) ∧ Ex H H') ⟨⟨_, _, _, _, _, _, _, rfl⟩, Ex.refl _⟩ ?_ ?_
    · rintro i σ' H' hi ⟨⟨v1, v2, v3, v4, v5, v6, v7, rfl⟩, e⟩
      walk_at "ss"
      refine ⟨_, _, _, rfl, ex_l e hS, by omega, fun n => ?_⟩
      walk_at "ss"
      refine ⟨_, rfl, fun b G1 hb f1 hB => ?_⟩
      walk_at "ss"
      refine ⟨_, rfl, hB, fun x G2 nx x2 hB2 => ?_⟩
      obtain ⟨hv, ht, ho⟩ := valOf_text nx
      walk_at "ss"
      refine ⟨_, rfl, nx, fun G3 f3 => ?_⟩
      walk_at "ss"
      refine c_cut (M := fun σ' G => σ' = [some (.ref a), some (.int (i : Int)), some (.ref b), some x, some (.str (textV x)), v5, v6, v7] ∧ BoxAt G b ∧ ExB b G3 G) ?_ ?_
      · walk_at "ss"
        refine ⟨_, _, rfl, hB2.ex f3, by decide, by decide, fun d G4 _ _ x4 hB4 => ?_⟩
        walk_at "ss"
        refine if_cs (fun _ => ?_) (fun _ => ?_)
        · walk_at "ss"
          refine ⟨_, rfl, .inl ⟨_, rfl, by omega, fun G5 f5 => ?_⟩⟩
          rw [hv]
          walk_at "ss"
          refine ⟨_, rfl, .inr nx, ?_⟩
          walk_at "ss"
          exact ⟨hB4.ex f5, x4.ex f5⟩
        · walk_at "ss"
          exact ⟨hB4, x4⟩
      rintro σ' G4 ⟨rfl, hB4, x4⟩
      walk_at "ss"
      refine ⟨_, rfl, nx, ?_⟩
      walk_at "ss"
      rw [decide_eq_true rfl]
      walk_at "ss"
      refine ⟨_, rfl, .inl ⟨_, rfl, by omega, fun G5 f5 => ?_⟩⟩
      rw [hv]
      walk_at "ss"
      refine ⟨_, rfl, .inr nx, ?_⟩
      walk_at "ss"
      refine ⟨by decide, by decide, ?_⟩
      refine forR (fun m σ' G => (∃ v5 v6, σ' = [some (.ref a), some (.int (i : Int)), some (.ref b), some x, some (.str (textV x)), v5, v6, v7]) ∧ BoxAt G b ∧ ExB b G5 G) ⟨⟨_, _, rfl⟩, hB4.ex f5, ExB.refl _ _⟩ ?_ ?_
      · rintro j σ' G6 hj ⟨⟨v5, v6, rfl⟩, hB6, x6⟩
        walk_at "ss"
        refine ⟨_, _, rfl, hB6, ht, ho, fun u G7 ul uo x7 hB7 => ?_⟩
        walk_at "ss"
        refine ⟨_, rfl, .inl ⟨_, rfl, by omega, fun G8 f8 => ?_⟩⟩
        walk_at "ss"
        refine ⟨_, rfl, ul, uo, fun G9 f9 => ?_⟩
        walk_at "ss"
        refine ⟨_, rfl, valOf_kind u, ?_⟩
        walk_at "ss"
        exact ⟨⟨_, _, rfl⟩, (hB7.ex f8).ex f9, ((x6.trans x7).ex f8).ex f9⟩
      · rintro σ' G6 ⟨⟨v5, v6, rfl⟩, hB6, x6⟩
        walk_at "ss"
        refine ⟨⟨_, _, _, _, _, _, _, rfl⟩, e.trans ?_⟩
        exact ExB.tot f1 hb ((((x2.ex f3).trans x4).ex f5).trans x6)
    · rintro σ' H' ⟨⟨v1, v2, v3, v4, v5, v6, v7, rfl⟩, e⟩
      walk_at "ss"
      refine ⟨by decide, by decide, by decide +kernel, by decide +kernel, ?_⟩
      dsimp only
      walk_at "ss"
      refine ⟨by decide, by decide, by decide +kernel, by decide +kernel, ?_⟩
      dsimp only
      walk_at "ss"
      refine newL fun p1 H1 _ e1 g1 => ?_
      walk_at "ss"
      refine ⟨⟨_, SqL.of g1⟩, ?_⟩
      refine forL (xs := [.str "1000000001", .str "-1000000001", .str (repS "9" (4301 : Int).toNat), .str (repS "0" (5000 : Int).toNat), .str "-", .str "", .str "-0", .str "00", .str "True", .str "1.0", .str "--1", .str "+1"]) (fun m σ' G => (∃ v4, σ' = [some (.ref a), v1, v2, v3, v4, v5, v6, v7]) ∧ Ex H1 G) ⟨⟨_, rfl⟩, Ex.refl _⟩ (fun i σ' G _ p => SqL.of (p.2 _ _ g1)) ?_ ?_
      · rintro j z σ' G hj ⟨⟨v4, rfl⟩, eL⟩
        obtain ⟨t, rfl, tl', tn⟩ : ∃ t : Str, z = .str t ∧ t.length ≤ 50000 ∧ valOf t = .non := by
          have hm := List.mem_of_getElem? hj
          simp only [List.mem_cons, List.not_mem_nil, or_false] at hm
          have r9 : (repS "9" (4301 : Int).toNat).length = 4301 := by rw [repS_len, show ("9" : Str).length = 1 from (by decide +kernel)]; rfl
          have r0 : (repS "0" (5000 : Int).toNat).length = 5000 := by rw [repS_len, show ("0" : Str).length = 1 from (by decide +kernel)]; rfl
          rcases hm with rfl | rfl | rfl | rfl | rfl | rfl | rfl | rfl | rfl | rfl | rfl | rfl
          · exact ⟨_, rfl, by decide +kernel, by decide +kernel⟩
          · exact ⟨_, rfl, by decide +kernel, by decide +kernel⟩
          · exact ⟨_, rfl, by omega, valOf_long (by omega)⟩
          · exact ⟨_, rfl, by omega, valOf_long (by omega)⟩
          all_goals exact ⟨_, rfl, by decide +kernel, by decide +kernel⟩
        walk_at "ss"
        refine ⟨_, rfl, .inl ⟨_, rfl, tl', fun G2 f2 => ?_⟩⟩
        rw [tn]
        walk_at "ss"
        refine if_ff rfl ?_
        walk_at "ss"
        exact ⟨⟨_, rfl⟩, eL.trans f2⟩
      · rintro σ' G ⟨⟨v4, rfl⟩, eL⟩
        walk_at "ss"
        refine newL fun p2 H2 _ e2 g2 => ?_
        walk_at "ss"
        refine newT fun p3 H3 _ e3 g3 => ?_
        walk_at "ss"
        intro p4 hp4
        walk_at "ss"
        have f4 : Ex H3 (upd H3 p4 (.dK [])) := Ex.new hp4
        generalize hH4 : upd H3 p4 (.dK []) = H4 at f4
        have g4 : H4 p4 = some (.dK []) := by rw [← hH4, upd_same]
        refine newL fun p5 H5 _ e5 g5 => ?_
        walk_at "ss"
        refine ⟨⟨_, SqL.of g5⟩, ?_⟩
        refine forL (xs := [.non, .int 5, .bl true, .ref p2, .ref p3, .ref p4]) (fun m σ' G => (∃ v7, σ' = [some (.ref a), v1, v2, v3, v4, v5, v6, v7]) ∧ Ex H5 G) ⟨⟨_, rfl⟩, Ex.refl _⟩ (fun i σ' G _ p => SqL.of (p.2 _ _ g5)) ?_ ?_
        · rintro j z σ' G' hj ⟨⟨v7, rfl⟩, eM⟩
          obtain ⟨n, ty, kb⟩ : ∃ n : String, TyX K G' z (.type n) ∧ kitB n "str" = some false := by
            have hm := List.mem_of_getElem? hj
            simp only [List.mem_cons, List.not_mem_nil, or_false] at hm
            rcases hm with rfl | rfl | rfl | rfl | rfl | rfl
            · exact ⟨_, ty_non, kb_ns⟩
            · exact ⟨_, ty_int _, kb_is⟩
            · exact ⟨_, ty_bl _, kb_bs⟩
            · exact ⟨_, ty_lst (eM _ _ (e5 _ _ (f4 _ _ (e3 _ _ g2)))), kb_ls⟩
            · exact ⟨_, ty_tup (eM _ _ (e5 _ _ (f4 _ _ g3))), kb_ts⟩
            · exact ⟨_, .base (.dK (eM _ _ (e5 _ _ g4))), kb_ds⟩
          walk_at "ss"
          refine ⟨_, rfl, .inr ⟨_, ty, kb, ?_⟩⟩
          walk_at "ss"
          refine if_ff rfl ?_
          walk_at "ss"
          exact ⟨⟨_, rfl⟩, eM⟩
        · rintro σ' G' ⟨⟨v7, rfl⟩, eM⟩
          walk_at "ss"
          refine ⟨_, rfl, .inl ⟨_, rfl, by decide +kernel, fun G2 f2 => ?_⟩⟩
          rw [show valOf "1000000000" = .int 1000000000 by decide +kernel]
          walk_at "ss"
          refine c_I ⟨by decide, by decide, by decide⟩ ?_
          walk_at "ss"
          refine if_tt rfl ?_
          walk_at "ss"
          refine ⟨_, rfl, .inl ⟨_, rfl, by decide +kernel, fun G3 f3 => ?_⟩⟩
          rw [show valOf "-1000000000" = .int (-1000000000) by decide +kernel]
          walk_at "ss"
          refine c_I ⟨by decide, by decide, by decide⟩ ?_
          walk_at "ss"
          rw [show decide (V.int (-1000000000) = V.int (0 - 10 ^ Int.toNat 9)) = true by decide]
          exact k _

end
theorem all_mk {l : PySem.W.OpenLaw} {w : World} {K : PySem.W.Frag} {h : Heap} {mg : Str → Option Value} {fa : Addr} (X : K.In h) (G : h.Ns mainGlobals mg) (hfa : mg "law" = some (.ref fa))
    {f0 : Addr} {od0 an0 : Option Addr} {sl0 : Array (Option Value)} {oc0 kV0 dc0 pm0 cd0 ct0 : Value}
    {f1 : Addr} {od1 an1 : Option Addr} {sl1 : Array (Option Value)} {oc1 kV1 dc1 pm1 cd1 ct1 : Value}
    {f2 : Addr} {od2 an2 : Option Addr} {sl2 : Array (Option Value)} {oc2 kV2 dc2 pm2 cd2 ct2 : Value}
    {f3 : Addr} {od3 an3 : Option Addr} {sl3 : Array (Option Value)} {oc3 kV3 dc3 pm3 cd3 ct3 : Value}
    {f4 : Addr} {od4 an4 : Option Addr} {sl4 : Array (Option Value)} {oc4 kV4 dc4 pm4 cd4 ct4 : Value}
    {f5 : Addr} {od5 an5 : Option Addr} {sl5 : Array (Option Value)} {oc5 kV5 dc5 pm5 cd5 ct5 : Value}
    {f6 : Addr} {od6 an6 : Option Addr} {sl6 : Array (Option Value)} {oc6 kV6 dc6 pm6 cd6 ct6 : Value}
    {f7 : Addr} {od7 an7 : Option Addr} {sl7 : Array (Option Value)} {oc7 kV7 dc7 pm7 cd7 ct7 : Value}
    {f8 : Addr} {od8 an8 : Option Addr} {sl8 : Array (Option Value)} {oc8 kV8 dc8 pm8 cd8 ct8 : Value}
    {f9 : Addr} {od9 an9 : Option Addr} {sl9 : Array (Option Value)} {oc9 kV9 dc9 pm9 cd9 ct9 : Value}
    {f10 : Addr} {od10 an10 : Option Addr} {sl10 : Array (Option Value)} {oc10 kV10 dc10 pm10 cd10 ct10 : Value}
    {f11 : Addr} {od11 an11 : Option Addr} {sl11 : Array (Option Value)} {oc11 kV11 dc11 pm11 cd11 ct11 : Value}
    (a0 : PySem.W.nsIn K mainGlobals "value_text" = some (some (.ref f0))) (l0 : K.lookup f0 = some ⟨oc0, od0, .func (PySem.W.fnOf "value_text" "value_text" (defArgs s_value_text) (defBody s_value_text) (defScope s_value_text) .none kV0 dc0 pm0 an0 cd0 ct0), sl0⟩) (c0 : PySem.W.codeIn K cd0 "value_text" = true) (k0 : PySem.W.keepIn K (.ref f0) = true)
    (a1 : PySem.W.nsIn K mainGlobals "plain_figures" = some (some (.ref f1))) (l1 : K.lookup f1 = some ⟨oc1, od1, .func (PySem.W.fnOf "plain_figures" "plain_figures" (defArgs s_plain_figures) (defBody s_plain_figures) (defScope s_plain_figures) .none kV1 dc1 pm1 an1 cd1 ct1), sl1⟩) (c1 : PySem.W.codeIn K cd1 "plain_figures" = true) (k1 : PySem.W.keepIn K (.ref f1) = true)
    (a2 : PySem.W.nsIn K mainGlobals "value_of" = some (some (.ref f2))) (l2 : K.lookup f2 = some ⟨oc2, od2, .func (PySem.W.fnOf "value_of" "value_of" (defArgs s_value_of) (defBody s_value_of) (defScope s_value_of) .none kV2 dc2 pm2 an2 cd2 ct2), sl2⟩) (c2 : PySem.W.codeIn K cd2 "value_of" = true) (k2 : PySem.W.keepIn K (.ref f2) = true)
    (a3 : PySem.W.nsIn K mainGlobals "_law_cell_at" = some (some (.ref f3))) (l3 : K.lookup f3 = some ⟨oc3, od3, .func (PySem.W.fnOf "_law_cell_at" "_law_cell_at" (defArgs s_cell_at_l) (defBody s_cell_at_l) (defScope s_cell_at_l) .none kV3 dc3 pm3 an3 cd3 ct3), sl3⟩) (c3 : PySem.W.codeIn K cd3 "_law_cell_at" = true) (k3 : PySem.W.keepIn K (.ref f3) = true)
    (a4 : PySem.W.nsIn K mainGlobals "_law_box" = some (some (.ref f4))) (l4 : K.lookup f4 = some ⟨oc4, od4, .func (PySem.W.fnOf "_law_box" "_law_box" (defArgs s_box_l) (defBody s_box_l) (defScope s_box_l) .none kV4 dc4 pm4 an4 cd4 ct4), sl4⟩) (c4 : PySem.W.codeIn K cd4 "_law_box" = true) (k4 : PySem.W.keepIn K (.ref f4) = true)
    (a5 : PySem.W.nsIn K mainGlobals "_law_take" = some (some (.ref f5))) (l5 : K.lookup f5 = some ⟨oc5, od5, .func (PySem.W.fnOf "_law_take" "_law_take" (defArgs s_take_l) (defBody s_take_l) (defScope s_take_l) .none kV5 dc5 pm5 an5 cd5 ct5), sl5⟩) (c5 : PySem.W.codeIn K cd5 "_law_take" = true) (k5 : PySem.W.keepIn K (.ref f5) = true)
    (a6 : PySem.W.nsIn K mainGlobals "_law_written" = some (some (.ref f6))) (l6 : K.lookup f6 = some ⟨oc6, od6, .func (PySem.W.fnOf "_law_written" "_law_written" (defArgs s_written_l) (defBody s_written_l) (defScope s_written_l) .none kV6 dc6 pm6 an6 cd6 ct6), sl6⟩) (c6 : PySem.W.codeIn K cd6 "_law_written" = true) (k6 : PySem.W.keepIn K (.ref f6) = true)
    (a7 : PySem.W.nsIn K mainGlobals "_law_read" = some (some (.ref f7))) (l7 : K.lookup f7 = some ⟨oc7, od7, .func (PySem.W.fnOf "_law_read" "_law_read" (defArgs s_read_l) (defBody s_read_l) (defScope s_read_l) .none kV7 dc7 pm7 an7 cd7 ct7), sl7⟩) (c7 : PySem.W.codeIn K cd7 "_law_read" = true) (k7 : PySem.W.keepIn K (.ref f7) = true)
    (a8 : PySem.W.nsIn K mainGlobals "_law_same" = some (some (.ref f8))) (l8 : K.lookup f8 = some ⟨oc8, od8, .func (PySem.W.fnOf "_law_same" "_law_same" (defArgs s_same_l) (defBody s_same_l) (defScope s_same_l) .none kV8 dc8 pm8 an8 cd8 ct8), sl8⟩) (c8 : PySem.W.codeIn K cd8 "_law_same" = true) (k8 : PySem.W.keepIn K (.ref f8) = true)
    (a9 : PySem.W.nsIn K mainGlobals "_law_value" = some (some (.ref f9))) (l9 : K.lookup f9 = some ⟨oc9, od9, .func (PySem.W.fnOf "_law_value" "_law_value" (defArgs s_value_l) (defBody s_value_l) (defScope s_value_l) .none kV9 dc9 pm9 an9 cd9 ct9), sl9⟩) (c9 : PySem.W.codeIn K cd9 "_law_value" = true) (k9 : PySem.W.keepIn K (.ref f9) = true)
    (a10 : PySem.W.nsIn K mainGlobals "_law_spoilt" = some (some (.ref f10))) (l10 : K.lookup f10 = some ⟨oc10, od10, .func (PySem.W.fnOf "_law_spoilt" "_law_spoilt" (defArgs s_spoilt_l) (defBody s_spoilt_l) (defScope s_spoilt_l) .none kV10 dc10 pm10 an10 cd10 ct10), sl10⟩) (c10 : PySem.W.codeIn K cd10 "_law_spoilt" = true) (k10 : PySem.W.keepIn K (.ref f10) = true)
    (a11 : PySem.W.nsIn K mainGlobals "law" = some (some (.ref f11))) (l11 : K.lookup f11 = some ⟨oc11, od11, .func (PySem.W.fnOf "law" "law" (defArgs s_law) (defBody s_law) (defScope s_law) .none kV11 dc11 pm11 an11 cd11 ct11), sl11⟩) (c11 : PySem.W.codeIn K cd11 "law" = true) (k11 : PySem.W.keepIn K (.ref f11) = true)
    (n_abs : PySem.W.nsIn K mainGlobals "abs" = some none)
    (n_all : PySem.W.nsIn K mainGlobals "all" = some none)
    (n_bool : PySem.W.nsIn K mainGlobals "bool" = some none)
    (n_int : PySem.W.nsIn K mainGlobals "int" = some none)
    (n_isinstance : PySem.W.nsIn K mainGlobals "isinstance" = some none)
    (n_len : PySem.W.nsIn K mainGlobals "len" = some none)
    (n_max : PySem.W.nsIn K mainGlobals "max" = some none)
    (n_min : PySem.W.nsIn K mainGlobals "min" = some none)
    (n_range : PySem.W.nsIn K mainGlobals "range" = some none)
    (n_str : PySem.W.nsIn K mainGlobals "str" = some none)
    {t_FIGURES : Tok} (c_FIGURES : PySem.W.nsIn K mainGlobals "FIGURES" = some (some (.str "0123456789" t_FIGURES)))
    {t_MOST : Tok} (c_MOST : PySem.W.nsIn K mainGlobals "MOST" = some (some (.int 1000000000 t_MOST)))
    {t_MOST_FIGURES : Tok} (c_MOST_FIGURES : PySem.W.nsIn K mainGlobals "MOST_FIGURES" = some (some (.int 10 t_MOST_FIGURES)))
    : ∃ fd : FuncData, (∀ (s : Shared) (v : Value), BindsTo s fd ⟨[v], []⟩ [("_law_script", v)]) ∧ ∀ base : Heap, K.In base → base.Ns mainGlobals mg → FnOk l.prog w K mg base CX0 3 fa fd ["_law_script"] (sp_law K) := by
  have e := hfa.symm.trans (PySem.W.mg_of X G a11)
  cases e
  have F0 := fun_mk (st := s_value_text) l0 c0 k0
  have b0 := F0.binds (ps := ["value"]) fun _ _ _ _ _ _ us hl => match us, hl with | [_], _ => rfl
  have F1 := fun_mk (st := s_plain_figures) l1 c1 k1
  have b1 := F1.binds (ps := ["text"]) fun _ _ _ _ _ _ us hl => match us, hl with | [_], _ => rfl
  have F2 := fun_mk (st := s_value_of) l2 c2 k2
  have b2 := F2.binds (ps := ["thing"]) fun _ _ _ _ _ _ us hl => match us, hl with | [_], _ => rfl
  have F3 := fun_mk (st := s_cell_at_l) l3 c3 k3
  have b3 := F3.binds (ps := ["_law_script", "_law_k"]) fun _ _ _ _ _ _ us hl => match us, hl with | [_, _], _ => rfl
  have F4 := fun_mk (st := s_box_l) l4 c4 k4
  have b4 := F4.binds (ps := ["_law_cell"]) fun _ _ _ _ _ _ us hl => match us, hl with | [_], _ => rfl
  have F5 := fun_mk (st := s_take_l) l5 c5 k5
  have b5 := F5.binds (ps := ["_law_box_here", "_law_many"]) fun _ _ _ _ _ _ us hl => match us, hl with | [_, _], _ => rfl
  have F6 := fun_mk (st := s_written_l) l6 c6 k6
  have b6 := F6.binds (ps := ["_law_value_here"]) fun _ _ _ _ _ _ us hl => match us, hl with | [_], _ => rfl
  have F7 := fun_mk (st := s_read_l) l7 c7 k7
  have b7 := F7.binds (ps := ["_law_thing"]) fun _ _ _ _ _ _ us hl => match us, hl with | [_], _ => rfl
  have F8 := fun_mk (st := s_same_l) l8 c8 k8
  have b8 := F8.binds (ps := ["_law_found", "_law_due"]) fun _ _ _ _ _ _ us hl => match us, hl with | [_, _], _ => rfl
  have F9 := fun_mk (st := s_value_l) l9 c9 k9
  have b9 := F9.binds (ps := ["_law_box_here"]) fun _ _ _ _ _ _ us hl => match us, hl with | [_], _ => rfl
  have F10 := fun_mk (st := s_spoilt_l) l10 c10 k10
  have b10 := F10.binds (ps := ["_law_box_here", "_law_text"]) fun _ _ _ _ _ _ us hl => match us, hl with | [_, _], _ => rfl
  have F11 := fun_mk (st := s_law) l11 c11 k11
  have b11 := F11.binds (ps := ["_law_script"]) fun _ _ _ _ _ _ us hl => match us, hl with | [_], _ => rfl
  have T : Txt K mg ⟨f0, _, f1, _, f2, _, f3, _, f4, _, f5, _, f6, _, f7, _, f8, _, f9, _, f10, _, fa, _⟩ := ⟨F0, b0, PySem.W.mg_of X G a0, F1, b1, PySem.W.mg_of X G a1, F2, b2, PySem.W.mg_of X G a2, F3, b3, PySem.W.mg_of X G a3, F4, b4, PySem.W.mg_of X G a4, F5, b5, PySem.W.mg_of X G a5, F6, b6, PySem.W.mg_of X G a6, F7, b7, PySem.W.mg_of X G a7, F8, b8, PySem.W.mg_of X G a8, F9, b9, PySem.W.mg_of X G a9, F10, b10, PySem.W.mg_of X G a10, F11, b11, PySem.W.mg_of X G a11, PySem.W.mg_none_of X G n_abs, PySem.W.mg_none_of X G n_all, PySem.W.mg_none_of X G n_bool, PySem.W.mg_none_of X G n_int, PySem.W.mg_none_of X G n_isinstance, PySem.W.mg_none_of X G n_len, PySem.W.mg_none_of X G n_max, PySem.W.mg_none_of X G n_min, PySem.W.mg_none_of X G n_range, PySem.W.mg_none_of X G n_str, ⟨_, PySem.W.mg_of X G c_FIGURES, ⟨_, rfl⟩⟩, ⟨_, PySem.W.mg_of X G c_MOST, ⟨_, rfl⟩⟩, ⟨_, PySem.W.mg_of X G c_MOST_FIGURES, ⟨_, rfl⟩⟩⟩
  exact ⟨_, fun s v => .of_eq rfl, fun base _ _ => ok_law T⟩
theorem walk {l : PySem.W.OpenLaw} {q : Program} {loose : List Str} {XP : (Str → Option Value) → Heap → Prop} {YP : World → Heap → Prop} {d : DefRec} {K : Params → PySem.W.Frag} (hn : l.most = some 63) (hdf : d.params.defaults = [])
    (hY : ∀ (w : World) (h : Heap), YP w h → (K w.params).In h)
    (F : ∀ (w : World) (mg : Str → Option Value) (fa : Addr) (h : Heap), (K w.params).In h → h.Ns mainGlobals mg → mg d.name = some (.ref fa) →
      ∃ fd : FuncData, (∀ (s : Shared) (u : Value), BindsTo s fd ⟨[u], []⟩ [("_law_script", u)]) ∧ ∀ base : Heap, (K w.params).In base → base.Ns mainGlobals mg → FnOk l.prog w (K w.params) mg base CX0 3 fa fd ["_law_script"] (sp_law (K w.params))) :
    PySem.W.WalkO q loose XP YP l.row.toRowW d [] (fun f vs => PySem.call f vs) :=
  L2.walk_of (n := 63) (k := 3) (x := "_law_script") (CX := fun _ => CX0) (sp := fun w => sp_law (K w.params)) hn (by decide) hdf ⟨rfl, by decide, by decide⟩ hY F (fun _ _ a ns hl _ hS => ⟨a, ns, rfl, hS, hl, fun _ => rfl⟩) fun _ _ _ _ _ z => z
end Toy

open PySem PySem.W PyProof.Rows in
set_option maxRecDepth 100000 in
set_option maxHeartbeats 0 in
theorem PySem.Challenge.cw_beatrows_k12_values_written_holds : PySem.Challenge.rw_beatrows_k12_values_written.Holds := by
  w_on; o_law; k_head; (case hw => w_witness2)
  k_fill
  refine Toy.walk (l := PySem.Challenge.rw_beatrows_k12_values_written) rfl rfl (fun w h Y => PySem.W.kIn_of Y) ?F
  case F =>
    intro w mg fa h KX G hmg
    refine' Toy.all_mk KX G hmg ?a0 ?l0 ?c0 ?k0 ?a1 ?l1 ?c1 ?k1 ?a2 ?l2 ?c2 ?k2 ?a3 ?l3 ?c3 ?k3 ?a4 ?l4 ?c4 ?k4 ?a5 ?l5 ?c5 ?k5 ?a6 ?l6 ?c6 ?k6 ?a7 ?l7 ?c7 ?k7 ?a8 ?l8 ?c8 ?k8 ?a9 ?l9 ?c9 ?k9 ?a10 ?l10 ?c10 ?k10 ?a11 ?l11 ?c11 ?k11 ?n_abs ?n_all ?n_bool ?n_int ?n_isinstance ?n_len ?n_max ?n_min ?n_range ?n_str ?c_FIGURES ?c_MOST ?c_MOST_FIGURES
    (case a0 => k_is)
    (case l0 => k_is)
    (case c0 => k_is)
    (case k0 => k_is)
    (case a1 => k_is)
    (case l1 => k_is)
    (case c1 => k_is)
    (case k1 => k_is)
    (case a2 => k_is)
    (case l2 => k_is)
    (case c2 => k_is)
    (case k2 => k_is)
    (case a3 => k_is)
    (case l3 => k_is)
    (case c3 => k_is)
    (case k3 => k_is)
    (case a4 => k_is)
    (case l4 => k_is)
    (case c4 => k_is)
    (case k4 => k_is)
    (case a5 => k_is)
    (case l5 => k_is)
    (case c5 => k_is)
    (case k5 => k_is)
    (case a6 => k_is)
    (case l6 => k_is)
    (case c6 => k_is)
    (case k6 => k_is)
    (case a7 => k_is)
    (case l7 => k_is)
    (case c7 => k_is)
    (case k7 => k_is)
    (case a8 => k_is)
    (case l8 => k_is)
    (case c8 => k_is)
    (case k8 => k_is)
    (case a9 => k_is)
    (case l9 => k_is)
    (case c9 => k_is)
    (case k9 => k_is)
    (case a10 => k_is)
    (case l10 => k_is)
    (case c10 => k_is)
    (case k10 => k_is)
    (case a11 => k_is)
    (case l11 => k_is)
    (case c11 => k_is)
    (case k11 => k_is)
    (case n_abs => k_is)
    (case n_all => k_is)
    (case n_bool => k_is)
    (case n_int => k_is)
    (case n_isinstance => k_is)
    (case n_len => k_is)
    (case n_max => k_is)
    (case n_min => k_is)
    (case n_range => k_is)
    (case n_str => k_is)
    (case c_FIGURES => k_is)
    (case c_MOST => k_is)
    (case c_MOST_FIGURES => k_is)
