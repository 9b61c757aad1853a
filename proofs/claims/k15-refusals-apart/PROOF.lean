import PyProof.Rows.All
import Wide.All
import OpenK.AllK
import Wide.FinOn
import KE.KExcIs
import HandS.ForMost
import HandS.IsInst
import HandS.Flow
import HandS.Evl
import HandS.Walk
import HandS.Replace
import HandS.Deep
import HandS.DeepEq
import KE.KEqDict
import HandS.Exc
import HandS.ExcField
import HandS.ExcInit
import HandS.ExcValue
import PySem.Challenge.RW_beatrows_k15_refusals_apart
set_option Elab.async false
set_option linter.all false
set_option maxRecDepth 100000
set_option maxHeartbeats 4000000
/-! ### own small rules -/
namespace L2
open PySem PySem.Spec PyProof.Rows
section
variable {X : Cx}
theorem pe_gcst {x : Str} {v : V} {pos : Pos} (hg : Gl X x) (h : ∃ u, X.mg x = some u ∧ RelV v u) (hd : (x == ("__debug__" : Str)) = false := by decide) : PE X (.Name x pos) (tC v) :=
  let ⟨_, hm, r⟩ := h
  pe_glob hg hm r hd
/-- divmod by any divisor but nought, below 2^30 -/
theorem call_divmodN : CallR X (.builtin "divmod") (fun xs H Q => ∃ i j : Int, xs = [.int i, .int j] ∧ CDivN i j ∧ ∀ p, H p = none → Q (.ref p) (upd H p (.tup [.int (i.fdiv j), .int (i.fmod j)]))) := by
  intro pins s σ H xs us Q I r h
  obtain ⟨i, j, rfl, ⟨h1, h2⟩, q⟩ := h
  obtain ⟨u, w', rfl, ⟨t, rfl⟩, ⟨t', rfl⟩⟩ := vals2 r
  refine divmod_int h1 ?_ (.inl (PyProof.noPylong_small h2))
  have hn := I.hok.fresh (Nat.le_refl s.heap.objs.size)
  refine ⟨.ref s.heap.objs.size, upd H s.heap.objs.size (.tup [.int (i.fdiv j), .int (i.fmod j)]), ?_, rfl, q _ hn⟩
  refine I.laid (fun b o e => Heap.get?_push_of_some _ e) (Nat.le_refl _) ?_
  refine ⟨by show 2 ≤ sizeLine; decide, [.int (i.fdiv j) s.toks, .int (i.fmod j) (s.toks + 1)], ?_, ?_⟩
  · exact .cons ⟨_, rfl⟩ (.cons ⟨_, rfl⟩ .nil)
  · exact ⟨_, Heap.get?_push_size s.heap rfl, rfl, 0, rfl⟩
end
/-- a new tuple, a new list of these, all else kept -/
def RetT (xs : List V) (H : Hp) (Q : VK) : Prop := ∀ p H2, H p = none → Evl.Ex H H2 → H2 p = some (.tup xs) → Q (.ref p) H2
def RetL (xs : List V) (H : Hp) (Q : VK) : Prop := ∀ p H2, H p = none → Evl.Ex H H2 → H2 p = some (.lst xs) → Q (.ref p) H2
def RetV (v : V) (H : Hp) (Q : VK) : Prop := ∀ H2, Evl.Ex H H2 → Q v H2
theorem RetT.up {xs : List V} {H0 H : Hp} {Q : VK} (k : RetT xs H0 Q) (e : Evl.Ex H0 H) : RetT xs H Q := fun p H2 hp e2 h2 => k p H2 (Evl.fresh_back e hp) (e.trans e2) h2
theorem RetL.up {xs : List V} {H0 H : Hp} {Q : VK} (k : RetL xs H0 Q) (e : Evl.Ex H0 H) : RetL xs H Q := fun p H2 hp e2 h2 => k p H2 (Evl.fresh_back e hp) (e.trans e2) h2
theorem RetV.up {v : V} {H0 H : Hp} {Q : VK} (k : RetV v H0 Q) (e : Evl.Ex H0 H) : RetV v H Q := fun H2 e2 => k H2 (e.trans e2)
def NewT (xs : List V) (H : Hp) (Q : VK) : Prop := xs.length ≤ sizeLine ∧ ∀ p, H p = none → Q (.ref p) (upd H p (.tup xs))
def NewL (xs : List V) (H : Hp) (Q : VK) : Prop := xs.length ≤ sizeLine ∧ ∀ p, H p = none → Q (.ref p) (upd H p (.lst xs))
theorem newT {xs : List V} {H : Hp} {Q : VK} (k : RetT xs H Q) (hz : xs.length ≤ 100000 := by exact Nat.le_of_ble_eq_true rfl) : NewT xs H Q := ⟨Evl.sz_of hz, fun p hp => k p _ hp (Evl.Ex.new hp) upd_same⟩
theorem newL {xs : List V} {H : Hp} {Q : VK} (k : RetL xs H Q) (hz : xs.length ≤ 100000 := by exact Nat.le_of_ble_eq_true rfl) : NewL xs H Q := ⟨Evl.sz_of hz, fun p hp => k p _ hp (Evl.Ex.new hp) upd_same⟩
theorem if_tt {c : Bool} {A B : Prop} (hc : c = true) (h : A) : if c = true then A else B := by rw [if_pos hc]; exact h
theorem if_ff {c : Bool} {A B : Prop} (hc : c = false) (h : B) : if c = true then A else B := by rw [hc]; exact iteF h
theorem if_nt {A B : Prop} (h : B) : if (!true) = true then A else B := iteF h
theorem if_nf {A B : Prop} (h : A) : if (!false) = true then A else B := iteT h
theorem if_cs {c : Bool} {A B : Prop} (h1 : c = true → A) (h2 : c = false → B) : if c = true then A else B := by
  cases c with
  | true => exact iteT (h1 rfl)
  | false => exact iteF (h2 rfl)
theorem kb_ii : kitB "int" "int" = some true := by decide +kernel
theorem kb_bi : kitB "bool" "int" = some true := by decide +kernel
theorem kb_ib : kitB "int" "bool" = some false := by decide +kernel
theorem kb_bb : kitB "bool" "bool" = some true := by decide +kernel
theorem ty_int {K : PySem.W.Frag} {H : Hp} (i : Int) : TyX K H (.int i) (.type "int") := .base (.int i)
theorem ty_bl {K : PySem.W.Frag} {H : Hp} (b : Bool) : TyX K H (.bl b) (.type "bool") := .base (.bl b)
theorem ty_str {K : PySem.W.Frag} {H : Hp} (b : Str) : TyX K H (.str b) (.type "str") := .base (.str b)
theorem ty_non {K : PySem.W.Frag} {H : Hp} : TyX K H .non (.type "NoneType") := .base .non
theorem ty_tup {K : PySem.W.Frag} {H : Hp} {a : Addr} {xs : List V} (h : H a = some (.tup xs)) : TyX K H (.ref a) (.type "tuple") := .base (.tup h)
theorem ty_lst {K : PySem.W.Frag} {H : Hp} {a : Addr} {xs : List V} (h : H a = some (.lst xs)) : TyX K H (.ref a) (.type "list") := .base (.lst h)
/-- isinstance of a thing of a built-in type -/
theorem isi {K : PySem.W.Frag} {H : Hp} {Q : VK} {x : V} {a b : String} {r : Bool} (h : TyX K H x (.type a)) (e : kitB a b = some r) (q : Q (.bl r) H) : rIsi K [x, .ty b] H Q :=
  ⟨x, .ty b, .type a, .type b, r, rfl, .ty b, h, kit_ty e, q⟩
end L2

/-! ### readings, one step each (the goal's head tells which) -/
namespace L2
open PySem PySem.Spec PyProof.Rows
section
variable {K : PySem.W.Frag} {σ : St} {H : Hp} {Q : VK} {B : Bool → Hp → Prop} {ta tb tc te : TE} {t u : TT} {tA : TA} {D : Ends} {s1 s2 : TS} {g : TG} {gs : TGs} {v : V} {r : R2}
theorem c_var {i : Nat} (h : σ[i]? = some (some v)) (q : Q v H) : tVar i σ H Q := ⟨v, h, q⟩
theorem c_c (q : Q v H) : tC v σ H Q := q
theorem c_op (h : ta σ H fun x H1 => tb σ H1 fun y H2 => r x y H2 Q) : tOp r ta tb σ H Q := h
theorem c_un {f : V → Hp → VK → Prop} (h : ta σ H fun x H1 => f x H1 Q) : tUn f ta σ H Q := h
theorem c_test (h : te σ H fun x H1 => ∃ k, x = .bl k ∧ B k H1) : tTest te σ H B := h
theorem c_b (h : te σ H fun x H1 => ∃ k, x = .bl k ∧ B k H1) : tB te σ H B := h
theorem c_and (h : t σ H fun c H1 => if c = true then u σ H1 B else B false H1) : tAnd t u σ H B := h
theorem c_or (h : t σ H fun c H1 => if c = true then B true H1 else u σ H1 B) : tOr t u σ H B := h
theorem c_not (h : t σ H fun c H1 => B (!c) H1) : tNot t σ H B := h
theorem c_andV (h : ta σ H fun x H1 => ∃ c, x = .bl c ∧ if c = true then tb σ H1 Q else Q (.bl false) H1) : tAndV ta tb σ H Q := h
theorem c_orV (h : ta σ H fun x H1 => ∃ c, x = .bl c ∧ if c = true then Q (.bl true) H1 else tb σ H1 Q) : tOrV ta tb σ H Q := h
theorem c_notV (h : ta σ H fun x H1 => ∃ c, x = .bl c ∧ Q (.bl (!c)) H1) : tNotV ta σ H Q := h
theorem c_if (h : t σ H fun c H1 => if c = true then ta σ H1 Q else tb σ H1 Q) : tIf t ta tb σ H Q := h
theorem c_orT (h : ta σ H fun x H1 => ∃ k, TruV K x H1 k ∧ if k = true then Q x H1 else tb σ H1 Q) : tOrT K ta tb σ H Q := h
theorem c_andT (h : ta σ H fun x H1 => ∃ k, TruV K x H1 k ∧ if k = true then tb σ H1 Q else Q x H1) : tAndT K ta tb σ H Q := h
theorem c_notT (h : ta σ H fun x H1 => ∃ k, TruV K x H1 k ∧ Q (.bl (!k)) H1) : tNotT K ta σ H Q := h
theorem c_yes (h : B true H) : tYes σ H B := h
theorem c_nil {q : List V → Hp → Prop} (h : q [] H) : tNil σ H q := h
theorem c_cons {q : List V → Hp → Prop} (h : ta σ H fun x H1 => tA σ H1 fun xs H2 => q (x :: xs) H2) : tCons ta tA σ H q := h
theorem c_tup (h : tA σ H fun xs H1 => NewT xs H1 Q) : tTup tA σ H Q := h
theorem c_lst (h : tA σ H fun xs H1 => NewL xs H1 Q) : tLst tA σ H Q := h
theorem c_call {sp : Sp} {E : XK} (h : tA σ H fun vs H1 => sp vs H1 Q E) : tCall sp [] E tA σ H Q := by
  show tA σ H fun vs H1 => sp (vs ++ []) H1 Q E
  simp only [List.append_nil]
  exact h
theorem c_cb {f : List V → Hp → VK → Prop} (h : tA σ H fun vs H1 => f vs H1 Q) : tCB f tA σ H Q := h
theorem c_sl {f : V → Option Int → Option Int → Hp → VK → Prop} {tl th : TO} (h : te σ H fun x H1 => tl σ H1 fun l H2 => th σ H2 fun u H3 => f x l u H3 Q) : tSl f te tl th σ H Q := h
theorem c_noPart {q : Option Int → Hp → Prop} (h : q none H) : tNoPart σ H q := h
theorem c_part {q : Option Int → Hp → Prop} (h : te σ H fun x H1 => ∃ i, x = .int i ∧ q (some i) H1) : tPart te σ H q := h
theorem c_bm {T : String} {f : V → List V → Hp → VK → Prop} (h : te σ H fun x H1 => tyV K T x H1 ∧ tA σ H1 fun xs H2 => f x xs H2 Q) : tBM K T f te tA σ H Q := h
theorem c_bm0 {T : String} {f : V → List V → Hp → VK → Prop} (h : te σ H fun x H1 => tyV K T x H1 ∧ f x [] H1 Q) : tBM0 K T f te σ H Q := h
theorem c_m0 {f : V → List V → Hp → VK → Prop} (h : te σ H fun x H1 => (∃ a, x = .str a) ∧ f x [] H1 Q) : tM0 f te σ H Q := h
theorem c_m1 {f : V → List V → Hp → VK → Prop} (h : ta σ H fun x H1 => (∃ a, x = .str a) ∧ tb σ H1 fun y H2 => f x [y] H2 Q) : tM1 f ta tb σ H Q := h
theorem c_chain {r' : R2} (h : ta σ H fun x H1 => tb σ H1 fun y H2 => r x y H2 fun z H3 => ∃ k, z = .bl k ∧ (if k = true then tc σ H3 fun w' H4 => r' y w' H4 Q else Q (.bl false) H3)) : tChain r r' ta tb tc σ H Q := h
/-! statements -/
theorem c_next (h : D.nx σ H) : tNext D σ H := h
theorem c_seq (h : s1 { D with nx := s2 D } σ H) : tSeq s1 s2 D σ H := h
theorem c_asg (h : te σ H fun x H1 => g x σ H1 D.nx) : tAsg te g D σ H := h
theorem c_ret (h : te σ H D.rt) : tRet te D σ H := h
theorem c_retN (h : D.rt .non H) : tRetN D σ H := h
theorem c_ifS (h : t σ H fun b H1 => if b = true then s1 D σ H1 else s2 D σ H1) : tIfS t s1 s2 D σ H := h
theorem c_drop (h : te σ H fun _ H1 => D.nx σ H1) : tDrop te D σ H := h
theorem c_break (h : D.bk σ H) : tBreak D σ H := h
theorem c_cont (h : D.ct σ H) : tCont D σ H := h
theorem c_nx {nx : St → Hp → Prop} {rt : VK} {bk ct : St → Hp → Prop} (h : nx σ H) : Ends.nx ⟨nx, rt, bk, ct⟩ σ H := h
theorem c_rt {nx : St → Hp → Prop} {rt : VK} {bk ct : St → Hp → Prop} (h : rt v H) : Ends.rt ⟨nx, rt, bk, ct⟩ v H := h
theorem c_bk {nx : St → Hp → Prop} {rt : VK} {bk ct : St → Hp → Prop} (h : bk σ H) : Ends.bk ⟨nx, rt, bk, ct⟩ σ H := h
theorem c_ct {nx : St → Hp → Prop} {rt : VK} {bk ct : St → Hp → Prop} (h : ct σ H) : Ends.ct ⟨nx, rt, bk, ct⟩ σ H := h
theorem c_gName {i : Nat} {q : St → Hp → Prop} (h : q (σ.set i (some v)) H) : gName i v σ H q := h
theorem c_gTup {n : Nat} {a : Addr} {xs : List V} {q : St → Hp → Prop} (hs : SqT K H a xs) (hl : xs.length = n) (h : gs xs σ H q) : gTup K n gs (.ref a) σ H q := ⟨a, xs, rfl, hs, hl, h⟩
theorem c_gCons {vs : List V} {q : St → Hp → Prop} (h : g v σ H fun σ' H' => gs vs σ' H' q) : gCons g gs (v :: vs) σ H q := ⟨v, vs, rfl, h⟩
theorem c_gNil {q : St → Hp → Prop} (h : q σ H) : gNil [] σ H q := ⟨rfl, h⟩
theorem c_gSub {to ti : TE} {f : TSet} {q : St → Hp → Prop} (h : to σ H fun o H1 => ti σ H1 fun i H2 => f o i v H2 fun H3 => q σ H3) : gSub to ti f v σ H q := h
theorem c_cut {M : St → Hp → Prop} (h : s1 { D with nx := M } σ H) (k : ∀ σ' H', M σ' H' → s2 D σ' H') : Evl.tCut s1 s2 D σ H := ⟨M, h, k⟩
/-! operations on values -/
theorem c_I0 {f : Int → Int → V} {i j : Int} (q : Q (f i j) H) : rI0 f (.int i) (.int j) H Q := ⟨i, j, rfl, rfl, q⟩
theorem c_I {C : Int → Int → Prop} {f : Int → Int → V} {i j : Int} (hc : C i j) (q : Q (f i j) H) : rI C f (.int i) (.int j) H Q := ⟨i, j, rfl, rfl, hc, q⟩
theorem c_U {f : Int → V} {i : Int} (q : Q (f i) H) : rU f (.int i) H Q := ⟨i, rfl, q⟩
theorem c_eq {x y : V} (h : scal x y = true) (q : Q (.bl (decide (x = y))) H) : rEq x y H Q := ⟨h, q⟩
theorem c_ne {x y : V} (h : scal x y = true) (q : Q (.bl (!decide (x = y))) H) : rNe x y H Q := ⟨h, q⟩
theorem c_ixL {p : Addr} {xs : List V} {i : Int} (h : SqL K H p xs) (ha : atI xs i = some v) (q : Q v H) : rIxL K (.ref p) (.int i) H Q := ⟨p, xs, i, v, rfl, rfl, h, ha, q⟩
theorem c_ixT {p : Addr} {xs : List V} {i : Int} (h : SqT K H p xs) (ha : atI xs i = some v) (q : Q v H) : rIxT K (.ref p) (.int i) H Q := ⟨p, xs, i, v, rfl, rfl, h, ha, q⟩
theorem c_setL {p : Addr} {xs : List V} {k : Int} {j : Nat} {q : Hp → Prop} (h : H p = some (.lst xs)) (hj : ixN xs.length k = some j) (h2 : q (upd H p (.lst (xs.set j v)))) : rSetL (.ref p) (.int k) v H q := ⟨p, xs, k, j, rfl, rfl, h, hj, h2⟩
theorem c_in {x : V} {p : Addr} {xs : List V} (h : SqL K H p xs ∨ SqT K H p xs) (hx : flatV x = true) (ha : xs.all flatV = true) (q : Q (.bl (inV x xs)) H) : rIn K false x (.ref p) H Q := ⟨p, xs, rfl, h, hx, ha, q⟩
theorem c_notin {x : V} {p : Addr} {xs : List V} (h : SqL K H p xs ∨ SqT K H p xs) (hx : flatV x = true) (ha : xs.all flatV = true) (q : Q (.bl (!inV x xs)) H) : rIn K true x (.ref p) H Q := ⟨p, xs, rfl, h, hx, ha, q⟩
theorem c_cat {l b : Addr} {xs zs : List V} (h : H l = some (.lst xs)) (h' : H b = some (.lst zs)) (k : RetL (xs ++ zs) H Q) (hz : xs.length + zs.length ≤ 100000 := by exact Nat.le_of_ble_eq_true rfl) : rCat (.ref l) (.ref b) H Q :=
  ⟨l, b, xs, zs, rfl, rfl, h, h', Evl.sz_of hz, fun p hp => k p _ hp (Evl.Ex.new hp) upd_same⟩
end
end L2

/-! ### == of tuples and lists of flat things -/
namespace L2
open PySem PySem.Spec PyProof.Rows
def dOf : V → PyData
  | .non => .none
  | .bl b => .bool b
  | .int i => .int i
  | .str x => .str x
  | _ => .none
/-- flat, its signs within the line -/
def okV : V → Bool
  | .non => true
  | .bl _ => true
  | .int _ => true
  | .str x => PyData.strOk x
  | _ => false
theorem okV_flat {v : V} (h : okV v = true) : flatV v = true := by
  cases v <;> first | rfl | exact absurd h Bool.false_ne_true
theorem okL_flat {xs : List V} (h : xs.all okV = true) : xs.all flatV = true := by
  rw [List.all_eq_true] at h ⊢
  exact fun x hx => okV_flat (h x hx)
def eqL : List V → List V → Bool
  | [], [] => true
  | x :: xs, y :: ys => eqV x y && eqL xs ys
  | _, _ => false
theorem dp_flat {K : PySem.W.Frag} {H : Hp} {v : V} (h : flatV v = true) : Dp K H v (dOf v) := by
  cases v with
  | non => exact .non
  | bl b => exact .bl b
  | int i => exact .int i
  | str x => exact .str x
  | _ => exact absurd h Bool.false_ne_true
theorem dpAll_flat {K : PySem.W.Frag} {H : Hp} : ∀ {xs : List V}, xs.all flatV = true → DpAll K H xs (xs.map dOf)
  | [], _ => .nil
  | x :: xs, h => by
    rw [List.all_cons, Bool.and_eq_true] at h
    exact .cons (dp_flat h.1) (dpAll_flat h.2)
theorem eqv_flat {a b : V} (ha : flatV a = true) (hb : flatV b = true) : PyData.eqv (dOf a) (dOf b) = eqV a b := by
  cases a <;> first | exact absurd ha Bool.false_ne_true | (cases b <;> first | exact absurd hb Bool.false_ne_true | simp [dOf, PyData.eqv, eqV])
theorem eqvAll_flat : ∀ {xs ys : List V}, xs.all flatV = true → ys.all flatV = true → PyData.eqvAll (xs.map dOf) (ys.map dOf) = eqL xs ys
  | [], [], _, _ => by simp [PyData.eqvAll, eqL]
  | [], _ :: _, _, _ => by simp [PyData.eqvAll, eqL]
  | _ :: _, [], _, _ => by simp [PyData.eqvAll, eqL]
  | x :: xs, y :: ys, h, h' => by
    rw [List.all_cons, Bool.and_eq_true] at h h'
    rw [List.map_cons, List.map_cons, PyData.eqvAll, eqv_flat h.1 h'.1, eqvAll_flat h.2 h'.2] <;> rfl
theorem flat_lay {v : V} (ho : okV v = true) : (dOf v).canLay0 = true ∧ (dOf v).depth ≤ 1 := by
  cases v <;> first | exact absurd ho Bool.false_ne_true | (simp [okV] at ho; simp [dOf, PyData.canLay0, PyData.depth, ho]) | simp [dOf, PyData.canLay0, PyData.depth]
theorem flat_layAll : ∀ {xs : List V}, xs.all okV = true → PyData.canLayAll0 (xs.map dOf) = true ∧ PyData.depthAll (xs.map dOf) ≤ 1
  | [], _ => by simp [PyData.canLayAll0, PyData.depthAll]
  | x :: xs, ho => by
    rw [List.all_cons, Bool.and_eq_true] at ho
    have h := flat_lay (v := x) ho.1
    have h2 := flat_layAll (xs := xs) ho.2
    rw [List.map_cons, PyData.canLayAll0, PyData.depthAll, h.1, h2.1]
    refine ⟨rfl, ?_⟩
    have := h.2
    have := h2.2
    omega
theorem shaped_tup {xs : List V} (ho : xs.all okV = true) : SeqAt.shaped (.tuple (xs.map dOf)) = true := by
  have h := flat_layAll (xs := xs) ho
  have h2 := h.2
  unfold SeqAt.shaped
  rw [PyData.canLay0, PyData.depth, h.1, Bool.true_and, decide_eq_true_eq]
  omega
theorem shaped_lst {xs : List V} (ho : xs.all okV = true) : SeqAt.shaped (.list (xs.map dOf)) = true := by
  have h := flat_layAll (xs := xs) ho
  have h2 := h.2
  unfold SeqAt.shaped
  rw [PyData.canLay0, PyData.depth, h.1, Bool.true_and, decide_eq_true_eq]
  omega
section
variable {K : PySem.W.Frag} {H : Hp} {Q : VK} {p q : Addr} {xs ys : List V}
theorem c_eqT (h : SqT K H p xs) (h' : SqT K H q ys) (f : xs.all okV = true) (f' : ys.all okV = true) (k : Q (.bl (eqL xs ys)) H) : rEqD K (.ref p) (.ref q) H Q :=
  ⟨_, _, .tup h (dpAll_flat (okL_flat f)), .tup h' (dpAll_flat (okL_flat f')), shaped_tup f, shaped_tup f', by rw [PyData.eqv, eqvAll_flat (okL_flat f) (okL_flat f')]; exact k⟩
theorem c_neT (h : SqT K H p xs) (h' : SqT K H q ys) (f : xs.all okV = true) (f' : ys.all okV = true) (k : Q (.bl (!eqL xs ys)) H) : rNeD K (.ref p) (.ref q) H Q :=
  ⟨_, _, .tup h (dpAll_flat (okL_flat f)), .tup h' (dpAll_flat (okL_flat f')), shaped_tup f, shaped_tup f', by rw [PyData.eqv, eqvAll_flat (okL_flat f) (okL_flat f')]; exact k⟩
theorem c_eqLs (h : SqL K H p xs) (h' : SqL K H q ys) (f : xs.all okV = true) (f' : ys.all okV = true) (k : Q (.bl (eqL xs ys)) H) : rEqD K (.ref p) (.ref q) H Q :=
  ⟨_, _, .lst h (dpAll_flat (okL_flat f)), .lst h' (dpAll_flat (okL_flat f')), shaped_lst f, shaped_lst f', by rw [PyData.eqv, eqvAll_flat (okL_flat f) (okL_flat f')]; exact k⟩
theorem c_neLs (h : SqL K H p xs) (h' : SqL K H q ys) (f : xs.all okV = true) (f' : ys.all okV = true) (k : Q (.bl (!eqL xs ys)) H) : rNeD K (.ref p) (.ref q) H Q :=
  ⟨_, _, .lst h (dpAll_flat (okL_flat f)), .lst h' (dpAll_flat (okL_flat f')), shaped_lst f, shaped_lst f', by rw [PyData.eqv, eqvAll_flat (okL_flat f) (okL_flat f')]; exact k⟩
theorem eqV_refl {v : V} (h : flatV v = true) : eqV v v = true := by
  cases v <;> first | exact absurd h Bool.false_ne_true | simp [eqV]
theorem eqL_refl : ∀ {xs : List V}, xs.all flatV = true → eqL xs xs = true
  | [], _ => rfl
  | x :: xs, h => by
    rw [List.all_cons, Bool.and_eq_true] at h
    rw [eqL, eqV_refl h.1, eqL_refl h.2] <;> rfl
end
/-! ### the law's box -/
def BoxAt (H : Hp) (b : Addr) : Prop := ∃ x y z : Int, 0 ≤ x ∧ H b = some (.lst [.int x, .int y, .int z])
/-- all but b is kept -/
def ExB (b : Addr) (H H' : Hp) : Prop := ∀ a o, a ≠ b → H a = some o → H' a = some o
theorem ExB.refl (b : Addr) (H : Hp) : ExB b H H := fun _ _ _ h => h
theorem ExB.trans {b : Addr} {H H1 H2 : Hp} (e : ExB b H H1) (e2 : ExB b H1 H2) : ExB b H H2 := fun a o n h => e2 a o n (e a o n h)
theorem ExB.ex {b : Addr} {H H1 H2 : Hp} (e : ExB b H H1) (e2 : Evl.Ex H1 H2) : ExB b H H2 := fun a o n h => e2 a o (e a o n h)
theorem ExB.of {b : Addr} {H H1 : Hp} (e : Evl.Ex H H1) : ExB b H H1 := fun a o _ h => e a o h
theorem ExB.upd {b : Addr} {H : Hp} {o : HO} : ExB b H (upd H b o) := fun a u n h => by rw [upd_ne n]; exact h
theorem BoxAt.ex {H H' : Hp} {b : Addr} (h : BoxAt H b) (e : Evl.Ex H H') : BoxAt H' b := let ⟨x, y, z, p, q⟩ := h; ⟨x, y, z, p, e _ _ q⟩
/-- what did not stand before b was made is kept through ExB b -/
theorem ExB.tot {b : Addr} {H0 H H' : Hp} (e : Evl.Ex H0 H) (n : H0 b = none) (e2 : ExB b H H') : Evl.Ex H0 H' := fun a o h => e2 a o (ne_of_none h n) (e a o h)
theorem ExB.lst {K : PySem.W.Frag} {b a : Addr} {H H' : Hp} {xs : List V} (e : ExB b H H') (n : a ≠ b) (h : SqL K H a xs) : SqL K H' a xs := by
  rcases h with (h | ⟨o, h⟩) | h
  · exact .inl (.inl (e _ _ n h))
  · exact .inl (.inr ⟨o, e _ _ n h⟩)
  · exact .inr h
end L2
namespace L2
open PySem PySem.Spec PyProof.Rows
theorem shaped_flat {v : V} (h : okV v = true) : SeqAt.shaped (dOf v) = true := by
  have q := flat_lay h
  unfold SeqAt.shaped
  rw [q.1, Bool.true_and, decide_eq_true_eq]
  have := q.2
  omega
theorem c_eqF {K : PySem.W.Frag} {H : Hp} {Q : VK} {x y : V} (f : okV x = true) (f' : okV y = true) (k : Q (.bl (eqV x y)) H) : rEqD K x y H Q :=
  ⟨_, _, dp_flat (okV_flat f), dp_flat (okV_flat f'), shaped_flat f, shaped_flat f', by rw [eqv_flat (okV_flat f) (okV_flat f')]; exact k⟩
theorem c_neF {K : PySem.W.Frag} {H : Hp} {Q : VK} {x y : V} (f : okV x = true) (f' : okV y = true) (k : Q (.bl (!eqV x y)) H) : rNeD K x y H Q :=
  ⟨_, _, dp_flat (okV_flat f), dp_flat (okV_flat f'), shaped_flat f, shaped_flat f', by rw [eqv_flat (okV_flat f) (okV_flat f')]; exact k⟩
end L2
namespace L2
open PySem PySem.Spec PyProof.Rows
theorem dec_s {x y : Str} : decide (V.str x = V.str y) = decide (x = y) := by
  by_cases h : x = y
  · subst h; simp
  · rw [decide_eq_false h, decide_eq_false fun e => h (V.str.inj e)]
theorem str_ne {x y : Str} (h : x ≠ y) : decide (V.str x = V.str y) = false := by rw [dec_s]; exact decide_eq_false h
theorem str_eq {x y : Str} (h : x = y) : decide (V.str x = V.str y) = true := by rw [dec_s]; exact decide_eq_true h
end L2

/-! ### list.count of flat things -/
namespace L2
open PySem PySem.Spec PyProof.Rows
theorem countP_eqU {x : V} : ∀ {xs : List V} {us : List Value}, Vals xs us → xs.all flatV = true → us.countP (eqU x) = xs.countP fun y => eqV y x
  | _, _, .nil, _ => rfl
  | y :: xs, u :: us, .cons r t, h => by
    rw [List.all_cons, Bool.and_eq_true] at h
    rw [List.countP_cons, List.countP_cons, countP_eqU t h.2, eqU_of r h.1]
def rCntF (K : PySem.W.Frag) : V → List V → Hp → VK → Prop := fun x xs H Q => ∃ (p : Addr) (ys : List V) (y : V), x = .ref p ∧ xs = [y] ∧ SqL K H p ys ∧ flatV y = true ∧ ys.all flatV = true ∧ Q (.int ((ys.countP fun z => eqV z y : Nat) : Int)) H
theorem mt_countF {X : Cx} : MtR X "list.count" (rCntF X.K) := by
  intro pins s σ H x xs v us Q I rx rxs h
  obtain ⟨p, ys, y, rfl, rfl, hs, fy, fl, q⟩ := h
  cases rx
  obtain ⟨u, rfl, ru⟩ := rxs.one
  obtain ⟨its, rv, ⟨⟨cls, dd, data, sl⟩, n, ho, hc, hdn, hd⟩, hlen⟩ := I.list hs
  simp only at hc hd
  subst hc hd
  have ec : its.toArray.toList.countP (eqU y) = ys.countP fun z => eqV z y := countP_eqU rv fl
  refine call_meets PySem.F.slot_list_count ⟨_, ho, rfl⟩ PySem.F.entry_list_count (PySem.F.args_list_count_2 _ _)
    (SeqAt.list_countAt p its.toArray n dd sl u (eqU y)) ⟨ho, fun z hz => mem_eqAt ru fy rv fl z (by simpa using hz), ?_⟩
  refine ⟨.int ((ys.countP fun z => eqV z y : Nat) : Int), H, I.tok _, ⟨s.toks, ?_⟩, q⟩
  rw [ec]
end L2

/-! ### a list comprehension whose element and test are told by the turn -/
namespace L2
open PySem PySem.Spec PyProof.Rows
theorem range_fm {f : Nat → Option V} {n : Nat} : (List.range (n + 1)).filterMap f = (List.range n).filterMap f ++ (f n).toList := by
  rw [List.range_succ, List.filterMap_append]
  cases h : f n <;> simp [List.filterMap_cons, h]
theorem fm_len {f : Nat → Option V} {n : Nat} : ((List.range n).filterMap f).length ≤ n := by
  have h := List.length_filterMap_le f (List.range n)
  rw [List.length_range] at h
  exact h
section
variable {K : PySem.W.Frag} {σ : St} {H : Hp} {Q : VK} {g : TG} {tt : TT} {te : TE} {vs : List Nat}
/-- one turn: the target, the test, the element come to f i, all that stood kept -/
def LcTurn (g : TG) (tt : TT) (te : TE) (vs : List Nat) (σ : St) (H : Hp) (x : V) (y : Option V) : Prop :=
  ∀ H2, Evl.Ex H H2 → ∀ R : Option V → Hp → Prop, (∀ H3, Evl.Ex H2 H3 → R y H3) →
    g x (wipe σ vs) H2 fun σ2 H3 => wipe σ2 vs = wipe σ vs ∧ tt σ2 H3 fun b H4 => if b = true then te σ2 H4 fun y H5 => R (some y) H5 else R none H4
theorem lc_of {n : Nat} {D : Addr} {H1 : Hp} {f : Nat → Option V} {i : Nat} {H' : Hp} (hn : n ≤ 50000) (hi : i < n) (p1 : H1 D = none) (p2 : Evl.Ex H1 H') (p3 : H' D = some (.lst ((List.range i).filterMap f))) {x : V} (ht : LcTurn g tt te vs σ H1 x (f i)) :
    g x (wipe σ vs) H' fun σ2 H2 => wipe σ2 vs = wipe σ vs ∧ tt σ2 H2 fun b H3 =>
      if b = true then te σ2 H3 fun y H4 => ∃ acc, H4 D = some (.lst acc) ∧ acc.length < sizeLine ∧ (H1 D = none ∧ Evl.Ex H1 (upd H4 D (.lst (acc ++ [y]))) ∧ upd H4 D (.lst (acc ++ [y])) D = some (.lst ((List.range (i + 1)).filterMap f))) else (H1 D = none ∧ Evl.Ex H1 H3 ∧ H3 D = some (.lst ((List.range (i + 1)).filterMap f))) := by
  refine ht H' p2 (fun o H4 => match o with
    | some y => ∃ acc, H4 D = some (.lst acc) ∧ acc.length < sizeLine ∧ (H1 D = none ∧ Evl.Ex H1 (upd H4 D (.lst (acc ++ [y]))) ∧ upd H4 D (.lst (acc ++ [y])) D = some (.lst ((List.range (i + 1)).filterMap f)))
    | none => (H1 D = none ∧ Evl.Ex H1 H4 ∧ H4 D = some (.lst ((List.range (i + 1)).filterMap f)))) (fun H3 e3 => ?_)
  cases hf : f i with
  | some y =>
    refine ⟨_, e3 _ _ p3, ?_, p1, Evl.Ex.mut (p2.trans e3) p1, ?_⟩
    · have := fm_len (f := f) (n := i)
      exact Evl.sz_lt (by omega)
    · rw [upd_same, range_fm, hf] <;> rfl
  | none =>
    refine ⟨p1, p2.trans e3, ?_⟩
    rw [range_fm, hf]
    show H3 D = some (.lst (_ ++ []))
    rw [List.append_nil]
    exact e3 _ _ p3
end
end L2

/-! ### loops -/
namespace L2
open PySem PySem.Spec PyProof.Rows
/-- a loop over what is walked already -/
def ForI (J : It) (g : TG) (tb : TS) (D : Ends) (σ : St) (H : Hp) : Prop := tFor (fun _ H1 R => R J H1) g tb D σ H
section
variable {K : PySem.W.Frag} {σ : St} {H : Hp} {D : Ends} {g : TG} {tb : TS} {ta : TA} {tl : TE}
theorem c_forR1 (h : ta σ H fun vs H1 => ∃ j : Int, vs = [.int j] ∧ -(2 ^ 62) ≤ j ∧ j < 2 ^ 62 ∧ ForI (Itr 0 j.toNat) g tb D σ H1) : tFor (iRng1 ta) g tb D σ H := h
theorem c_forR2 (h : ta σ H fun vs H1 => ∃ i j : Int, vs = [.int i, .int j] ∧ (-(2 ^ 62) ≤ i ∧ i < 2 ^ 62 ∧ -(2 ^ 62) ≤ j ∧ j < 2 ^ 62) ∧ ForI (Itr i (j - i).toNat) g tb D σ H1) : tFor (iRng2 ta) g tb D σ H := h
theorem c_forL (h : tl σ H fun x H1 => ∃ a, x = .ref a ∧ (∃ xs, SqL K H1 a xs) ∧ ForI (Itl K a) g tb D σ H1) : tFor (iList K tl) g tb D σ H := h
theorem c_forT (h : tl σ H fun x H1 => ∃ a, x = .ref a ∧ (∃ xs, SqT K H1 a xs) ∧ ForI (Itt K a) g tb D σ H1) : tFor (iTup K tl) g tb D σ H := h
/-- range(n), n whole and not below 0 or below it -/
theorem forR {n : Nat} {j : Nat} (Pv : Nat → St → Hp → Prop) (h0 : Pv 0 σ H) (hs : ∀ (i : Nat) σ' H', i < n → Pv i σ' H' → tb { D with nx := Pv (i + 1), ct := Pv (i + 1), bk := D.nx } (σ'.set j (some (.int (i : Int)))) H') (hd : ∀ σ' H', Pv n σ' H' → D.nx σ' H') : ForI (Itr 0 n) (gName j) tb D σ H :=
  for_range (lo := 0) (n := n) Pv h0 (fun i σ' H' hi p => by
    have e0 : (0 : Int) + (i : Int) = (i : Int) := Int.zero_add _
    show tb { D with nx := Pv (i + 1), ct := Pv (i + 1), bk := D.nx } (σ'.set j (some (.int ((0 : Int) + (i : Int))))) H'
    rw [e0]
    exact hs i σ' H' hi p) hd
theorem forL {a : Addr} {xs : List V} {j : Nat} (Pv : Nat → St → Hp → Prop) (h0 : Pv 0 σ H) (hl : ∀ i σ' H', i ≤ xs.length → Pv i σ' H' → SqL K H' a xs)
    (hs : ∀ i x σ' H', xs[i]? = some x → Pv i σ' H' → tb { D with nx := Pv (i + 1), ct := Pv (i + 1), bk := D.nx } (σ'.set j (some x)) H') (hd : ∀ σ' H', Pv xs.length σ' H' → D.nx σ' H') : ForI (Itl K a) (gName j) tb D σ H := for_list Pv h0 hl hs hd
theorem forT {a : Addr} {xs : List V} {j : Nat} (Pv : Nat → St → Hp → Prop) (h0 : Pv 0 σ H) (hl : ∀ i σ' H', i ≤ xs.length → Pv i σ' H' → SqT K H' a xs)
    (hs : ∀ i x σ' H', xs[i]? = some x → Pv i σ' H' → tb { D with nx := Pv (i + 1), ct := Pv (i + 1), bk := D.nx } (σ'.set j (some x)) H') (hd : ∀ σ' H', Pv xs.length σ' H' → D.nx σ' H') : ForI (Itt K a) (gName j) tb D σ H := for_tup Pv h0 hl hs hd
end
/-- a comprehension over what is walked already -/
def LcI (J : It) (g : TG) (tt : TT) (te : TE) (vs : List Nat) (σ : St) (H : Hp) (Q : VK) : Prop := tLc (fun _ H1 R => R J H1) g tt te vs σ H Q
section
variable {K : PySem.W.Frag} {σ : St} {H : Hp} {Q : VK} {g : TG} {tt : TT} {te : TE} {vs : List Nat} {ta : TA} {tl : TE}
theorem c_lcR1 (h : ta σ H fun ws H1 => ∃ j : Int, ws = [.int j] ∧ -(2 ^ 62) ≤ j ∧ j < 2 ^ 62 ∧ LcI (Itr 0 j.toNat) g tt te vs σ H1 Q) : tLc (iRng1 ta) g tt te vs σ H Q := h
theorem c_lcLi (h : tl σ H fun x H1 => ∃ a, x = .ref a ∧ (∃ xs, SqL K H1 a xs) ∧ LcI (Itl K a) g tt te vs σ H1 Q) : tLc (iList K tl) g tt te vs σ H Q := h
theorem c_lcTi (h : tl σ H fun x H1 => ∃ a, x = .ref a ∧ (∃ xs, SqT K H1 a xs) ∧ LcI (Itt K a) g tt te vs σ H1 Q) : tLc (iTup K tl) g tt te vs σ H Q := h
theorem lcL {a : Addr} {xs : List V} (f : Nat → Option V) (hs : SqL K H a xs) (hl : xs.length ≤ 50000) (ht : ∀ (i : Nat) (x : V), xs[i]? = some x → LcTurn g tt te vs σ H x (f i)) (k : RetL ((List.range xs.length).filterMap f) H Q) : LcI (Itl K a) g tt te vs σ H Q := by
  refine fun D hD => ?_
  refine lc_list (xs := xs) (fun i H' => H D = none ∧ Evl.Ex H H' ∧ H' D = some (.lst ((List.range i).filterMap f))) ⟨hD, Evl.Ex.new hD, upd_same⟩ (fun i H' _ p => Evl.ex_l p.2.1 hs) (fun i x H' hi p => ?_) (fun H' p => k D H' p.1 p.2.1 p.2.2)
  exact lc_of hl (List.getElem?_eq_some_iff.mp hi).1 p.1 p.2.1 p.2.2 (ht i x hi)
theorem lcT {a : Addr} {xs : List V} (f : Nat → Option V) (hs : SqT K H a xs) (hl : xs.length ≤ 50000) (ht : ∀ (i : Nat) (x : V), xs[i]? = some x → LcTurn g tt te vs σ H x (f i)) (k : RetL ((List.range xs.length).filterMap f) H Q) : LcI (Itt K a) g tt te vs σ H Q := by
  refine fun D hD => ?_
  refine lc_tup (xs := xs) (fun i H' => H D = none ∧ Evl.Ex H H' ∧ H' D = some (.lst ((List.range i).filterMap f))) ⟨hD, Evl.Ex.new hD, upd_same⟩ (fun i H' _ p => Evl.ex_t p.2.1 hs) (fun i x H' hi p => ?_) (fun H' p => k D H' p.1 p.2.1 p.2.2)
  exact lc_of hl (List.getElem?_eq_some_iff.mp hi).1 p.1 p.2.1 p.2.2 (ht i x hi)
theorem lcR {n : Nat} (f : Nat → Option V) (hl : n ≤ 50000) (ht : ∀ (i : Nat), i < n → LcTurn g tt te vs σ H (.int (i : Int)) (f i)) (k : RetL ((List.range n).filterMap f) H Q) : LcI (Itr 0 n) g tt te vs σ H Q := by
  refine fun D hD => ?_
  refine lc_range (lo := 0) (n := n) (fun i H' => H D = none ∧ Evl.Ex H H' ∧ H' D = some (.lst ((List.range i).filterMap f))) ⟨hD, Evl.Ex.new hD, upd_same⟩ (fun i H' hi p => ?_) (fun H' p => k D H' p.1 p.2.1 p.2.2)
  have e0 : (0 : Int) + (i : Int) = (i : Int) := Int.zero_add _
  rw [e0]
  exact lc_of hl hi p.1 p.2.1 p.2.2 (ht i hi)
end
end L2

/-! ### texts -/
namespace L2
open PySem PySem.Spec PyProof.Rows
open TL (tl)
/-- x is b, x is not b, b True or False, x a flat thing -/
def rIsV : R2 := fun x y H Q => ∃ b : Bool, y = .bl b ∧ Q (.bl (decide (x = .bl b))) H
def rNotV : R2 := fun x y H Q => ∃ b : Bool, y = .bl b ∧ Q (.bl (!decide (x = .bl b))) H
section
variable {X : Cx}
theorem isV_plain {x : V} {v : Value} {b : Bool} (rx : RelV x v) : plainIs v (.bool b) = true ∧ (v == Value.bool b) = decide (x = .bl b) := by
  cases x with
  | non => cases (show v = Value.none from rx); exact ⟨rfl, rfl⟩
  | bl c =>
    cases (show v = Value.bool c from rx)
    refine ⟨rfl, ?_⟩
    cases c <;> cases b <;> rfl
  | int i => obtain ⟨t, e⟩ := (show ∃ t, v = Value.int i t from rx); cases e; exact ⟨rfl, rfl⟩
  | str z => obtain ⟨t, e⟩ := (show ∃ t, v = Value.str z t from rx); cases e; exact ⟨rfl, rfl⟩
  | byt z => obtain ⟨t, e⟩ := (show ∃ t, v = Value.bytes z t from rx); cases e; exact ⟨rfl, rfl⟩
  | flt z => obtain ⟨t, e⟩ := (show ∃ t, v = Value.float z t from rx); cases e; exact ⟨rfl, rfl⟩
  | ref a => cases (show v = Value.ref a from rx); exact ⟨rfl, rfl⟩
  | ty n => cases (show v = Value.type n from rx); exact ⟨rfl, rfl⟩
theorem op_isB : OpR X (compareOp .Is) rIsV := by
  intro pins s σ H x y v u Q I rx ry h
  obtain ⟨b, rfl, q⟩ := h
  cases (show u = Value.bool b from ry)
  have z := isV_plain (b := b) rx
  refine wpAny_is_plain z.1 ?_
  rw [z.2]
  exact ⟨.bl _, H, I, rfl, q⟩
theorem op_notB : OpR X (compareOp .IsNot) rNotV := by
  intro pins s σ H x y v u Q I rx ry h
  obtain ⟨b, rfl, q⟩ := h
  cases (show u = Value.bool b from ry)
  have z := isV_plain (b := b) rx
  refine wpAny_isNot_plain z.1 ?_
  rw [z.2]
  exact ⟨.bl _, H, I, rfl, q⟩
end
/-- s * n, n two at least -/
def repS (x : Str) (n : Nat) : Str := ⟨(List.replicate n x.cps).foldl (· ++ ·) #[]⟩
theorem rep_size (a : Array Nat) : ∀ (n : Nat) (acc : Array Nat), ((List.replicate n a).foldl (· ++ ·) acc).size = acc.size + n * a.size
  | 0, acc => by simp
  | n + 1, acc => by
    rw [List.replicate_succ, List.foldl_cons, rep_size a n, Array.size_append, Nat.succ_mul]
    omega
theorem repS_len (x : Str) (n : Nat) : (repS x n).length = n * x.length := by
  show ((List.replicate n x.cps).foldl (· ++ ·) #[]).size = _
  rw [rep_size]
  simp [Str.length]
section
variable {X : Cx}
theorem op_rep_str : OpR X (binaryOp .Mult) (fun x y H Q => ∃ (z : Str) (n : Int), x = .str z ∧ y = .int n ∧ 2 ≤ n ∧ n ≤ 100000 ∧ 0 < z.length ∧ z.length ≤ 100 ∧ Q (.str (repS z n.toNat)) H) := by
  intro pins s σ H x y v u Q I rx ry h
  obtain ⟨z, n, rfl, rfl, h2, h1, z0, z1, q⟩ := h
  obtain ⟨t, rfl⟩ := rx
  obtain ⟨t', rfl⟩ := ry
  have hs : sizeLine = 16777216 := sizeLine_eq
  have hp : z.length * n.toNat ≤ 100 * 100000 := Nat.mul_le_mul z1 (by omega)
  refine PySem.P.mul_str ?_ (fun _ _ => ?_) (fun _ _ => ?_) ?_
  · rw [decide_eq_false (by omega), decide_eq_false (by omega)]; rfl
  · have : (100 : Int) ≤ (2 ^ 63 - 1) / n := by
      rw [Int.le_ediv_iff_mul_le (by omega)]
      omega
    omega
  · unfold Builtin.Str.tooLong
    rw [decide_eq_false (by omega)]
  · rw [if_neg (by omega), if_neg (by
      rw [Bool.or_eq_true, beq_iff_eq, beq_iff_eq]
      omega)]
    refine ⟨?_, .str (repS z n.toNat), H, I.tok _, ⟨_, rfl⟩, q⟩
    have e := repS_len z n.toNat
    rw [Nat.mul_comm] at e
    show (repS z n.toNat).length ≤ sizeLine
    omega
end
/-! loops over a text -/
section
variable {K : PySem.W.Frag} {σ : St} {H : Hp} {D : Ends} {Q : VK} {g : TG} {tb : TS} {tl' : TE} {tt : TT} {te : TE} {vs : List Nat}
theorem c_forS (h : tl' σ H fun v H1 => ∃ x, v = .str x ∧ ForI (Its x) g tb D σ H1) : tFor (iStr tl') g tb D σ H := h
theorem c_lcSi (h : tl' σ H fun v H1 => ∃ x, v = .str x ∧ LcI (Its x) g tt te vs σ H1 Q) : tLc (iStr tl') g tt te vs σ H Q := h
theorem tl_get {x : Str} {i c : Nat} : x.cps[i]? = some c ↔ (tl x)[i]? = some c := by
  show _ ↔ x.cps.toList[i]? = some c
  rw [Array.getElem?_toList]
theorem tl_len (x : Str) : (tl x).length = x.length := by simp [tl, Str.length]
theorem forS {x : Str} {j : Nat} (Pv : Nat → St → Hp → Prop) (h0 : Pv 0 σ H)
    (hs : ∀ i c σ' H', (tl x)[i]? = some c → Pv i σ' H' → tb { D with nx := Pv (i + 1), ct := Pv (i + 1), bk := D.nx } (σ'.set j (some (.str ⟨#[c]⟩))) H') (hd : ∀ σ' H', Pv (tl x).length σ' H' → D.nx σ' H') : ForI (Its x) (gName j) tb D σ H :=
  for_it walk_str Pv h0 (fun _ _ _ _ _ => trivial) (fun i v σ' H' H'' hi p y => by
    obtain ⟨rfl, c, hc, rfl⟩ := y
    exact hs i c σ' H'' (tl_get.mp hc) p) (by
    have e : x.cps.size = (tl x).length := by simp [tl]
    rw [e]
    exact hd)
theorem fm_range {α : Type} {F : α → Option V} : ∀ {l : List α}, (List.range l.length).filterMap (fun i => (l[i]?).bind F) = l.filterMap F
  | [] => rfl
  | a :: l => by
    rw [List.length_cons, List.range_succ_eq_map, List.filterMap_cons, List.filterMap_map, List.filterMap_cons]
    have ih := fm_range (F := F) (l := l)
    rw [List.getElem?_cons_zero, Option.bind_some]
    have e : ((fun i => ((a :: l)[i]?).bind F) ∘ Nat.succ) = fun i => (l[i]?).bind F := by
      funext i
      simp
    rw [e, ih] <;> rfl
theorem lcS {x : Str} (F : Nat → Option V) (hl : x.length ≤ 50000) (ht : ∀ c, c ∈ tl x → LcTurn g tt te vs σ H (.str ⟨#[c]⟩) (F c)) (k : RetL ((tl x).filterMap F) H Q) : LcI (Its x) g tt te vs σ H Q := by
  refine fun D hD => ?_
  have e : x.cps.size = (tl x).length := by simp [tl]
  refine lc_it walk_str (fun i H' => H D = none ∧ Evl.Ex H H' ∧ H' D = some (.lst ((List.range i).filterMap fun i => ((tl x)[i]?).bind F))) ⟨hD, Evl.Ex.new hD, upd_same⟩ (fun _ _ _ _ => trivial) (fun i v H' H'' hi p y => ?_) (fun H' p => k D H' p.1 p.2.1 ?_)
  · obtain ⟨rfl, c, hc, rfl⟩ := y
    have hc2 := tl_get.mp hc
    refine lc_of (n := x.cps.size) (f := fun i => ((tl x)[i]?).bind F) hl hi p.1 p.2.1 p.2.2 ?_
    rw [hc2]
    exact ht c (List.mem_of_getElem? hc2)
  · have q := p.2.2
    rw [e, fm_range] at q
    exact q
/-- the same of a list, by what its things are -/
theorem lcLv {a : Addr} {xs : List V} (F : V → Option V) (hs : SqL K H a xs) (hl : xs.length ≤ 50000) (ht : ∀ x, x ∈ xs → LcTurn g tt te vs σ H x (F x)) (k : RetL (xs.filterMap F) H Q) : LcI (Itl K a) g tt te vs σ H Q := by
  refine lcL (fun i => (xs[i]?).bind F) hs hl (fun i x hi => ?_) ?_
  · rw [hi]
    exact ht x (List.mem_of_getElem? hi)
  · rw [fm_range]
    exact k
end
theorem fm_some {α : Type} {F : α → V} : ∀ (l : List α), l.filterMap (fun c => some (F c)) = l.map F
  | [] => rfl
  | a :: l => by rw [List.filterMap_cons, List.map_cons, fm_some l]
theorem tl_ext {x y : Str} : x = y ↔ tl x = tl y := ⟨fun h => by rw [h], TL.ext_tl⟩
theorem starts_is (x y : Str) : Txt.startswith x y = ((tl x).take (tl y).length == tl y) := by
  unfold Txt.startswith
  rw [StrLaws.subAt_eq]
  show (decide (0 + y.length ≤ x.length) && (((tl x).drop 0).take y.length == tl y)) = _
  rw [List.drop_zero, tl_len]
  cases h : (List.take y.length (tl x) == tl y) with
  | false => rw [Bool.and_false]
  | true =>
    rw [Bool.and_true, decide_eq_true_eq]
    have e := congrArg List.length (beq_iff_eq.mp h)
    rw [List.length_take, tl_len, tl_len] at e
    omega
theorem tl_cut (z : Str) (lo hi : Option Int) : tl (cutS z lo hi) = ((tl z).drop (HT.sIx z.length 0 lo)).take (HT.sIx z.length z.length hi - HT.sIx z.length 0 lo) := rfl
theorem tl_one (c : Nat) : tl ⟨#[c]⟩ = [c] := rfl
end L2
namespace L2
open PySem PySem.Spec PyProof.Rows
open TL (tl)
theorem c_ixS {H : Hp} {Q : VK} {z : Str} {i : Int} {c : Nat} (hz : z.length ≤ 100000) (ha : atI (tl z) i = some c) (q : Q (.str ⟨#[c]⟩) H) : rIxS (.str z) (.int i) H Q := ⟨z, i, c, rfl, rfl, Evl.sz_of hz, ha, q⟩
theorem c_slS {H : Hp} {Q : VK} {z : Str} {lo hi : Option Int} (hz : z.length ≤ 100000) (q : Q (.str (cutS z lo hi)) H) : rSlS (.str z) lo hi H Q := ⟨z, rfl, Evl.sz_of hz, q⟩
theorem sIx_le' (n d : Nat) (hd : d ≤ n) (o : Option Int) : HT.sIx n d o ≤ n := HT.sIx_le n d hd o
theorem add_len (a b : Str) : (a ++ b).length = a.length + b.length := by
  rw [← tl_len, TL.tl_append, List.length_append, tl_len, tl_len]
end L2
namespace L2
open PySem PySem.Spec PyProof.Rows
open TL (tl)
/-- a text whose signs lie within the line -/
def OkT (t : Str) : Prop := ∀ c, c ∈ tl t → c < 1114112
theorem okT_V {t : Str} (h : OkT t) : okV (.str t) = true := by
  show PyData.strOk t = true
  unfold PyData.strOk
  rw [Array.all_eq_true']
  intro c hc
  exact decide_eq_true (h c (Array.mem_toList_iff.mpr hc))
theorem okT_one {c : Nat} (h : c < 1114112) : okV (.str ⟨#[c]⟩) = true := okT_V fun d hd => by
  have : d = c := by simpa [tl] using hd
  omega
theorem OkT.app {a b : Str} (ha : OkT a) (hb : OkT b) : OkT (a ++ b) := fun c hc => by
  rw [TL.tl_append] at hc
  rcases List.mem_append.mp hc with h | h
  · exact ha c h
  · exact hb c h
theorem OkT.cut {a : Str} (ha : OkT a) (lo hi : Option Int) : OkT (cutS a lo hi) := fun c hc => ha c (List.mem_of_mem_drop (List.mem_of_mem_take hc))
theorem OkT.lit {t : Str} (h : (tl t).all (fun c => decide (c < 1114112)) = true) : OkT t := fun c hc => of_decide_eq_true (List.all_eq_true.mp h c hc)
end L2

/-! ### draws within a comprehension; joined texts -/
namespace L2
open PySem PySem.Spec PyProof.Rows
open TL (tl)
section
variable {K : PySem.W.Frag} {σ : St} {H : Hp} {Q : VK} {g : TG} {tt : TT} {te : TE} {vs : List Nat}
theorem BoxAt.some {H : Hp} {b : Addr} (h : BoxAt H b) : ∃ o, H b = Option.some o := let ⟨_, _, _, _, q⟩ := h; ⟨_, q⟩
theorem lcRB {n : Nat} {b : Addr} (good : V → Prop) (hn : n ≤ 1000) (hB : BoxAt H b)
    (ht : ∀ (i : Nat), i < n → ∀ H2, BoxAt H2 b → ExB b H H2 → ∀ (R : V → Hp → Prop) (N : Hp → Prop), (∀ y H3, good y → BoxAt H3 b → ExB b H2 H3 → R y H3) →
      g (.int (i : Int)) (wipe σ vs) H2 fun σ2 H3 => wipe σ2 vs = wipe σ vs ∧ tt σ2 H3 fun c H4 => if c = true then te σ2 H4 fun y H5 => R y H5 else N H4)
    (k : ∀ ys p H2, ys.length = n → (∀ y ∈ ys, good y) → H p = none → ExB b H H2 → BoxAt H2 b → H2 p = some (.lst ys) → Q (.ref p) H2) : LcI (Itr 0 n) g tt te vs σ H Q := by
  refine fun D hD => ?_
  obtain ⟨ob, hob⟩ := hB.some
  have nDb : D ≠ b := (ne_of_none hob hD).symm
  have bx : ∀ {G : Hp} {o : HO}, BoxAt G b → BoxAt (upd G D o) b := fun ⟨x, y, z, p, q⟩ => ⟨x, y, z, p, by rw [upd_ne nDb.symm]; exact q⟩
  have ex : ∀ {G : Hp} {o : HO}, ExB b H G → ExB b H (upd G D o) := fun e a u na ha => by rw [upd_ne (ne_of_none ha hD)]; exact e a u na ha
  refine lc_range (lo := 0) (n := n) (fun i H' => i ≤ n ∧ ExB b H H' ∧ BoxAt H' b ∧ ∃ ys, ys.length = i ∧ (∀ y ∈ ys, good y) ∧ H' D = some (.lst ys)) ⟨Nat.zero_le _, ex (ExB.refl _ _), bx hB, [], rfl, (fun _ h => by cases h), upd_same⟩ (fun i H' hi p => ?_) (fun H' p => ?_)
  · obtain ⟨_, e1, b1, ys, hl, hg, hy⟩ := p
    have e0 : (0 : Int) + (i : Int) = (i : Int) := Int.zero_add _
    rw [e0]
    refine ht i hi H' b1 e1 (fun y H4 => ∃ acc, H4 D = some (.lst acc) ∧ acc.length < sizeLine ∧ (i + 1 ≤ n ∧ ExB b H (upd H4 D (.lst (acc ++ [y]))) ∧ BoxAt (upd H4 D (.lst (acc ++ [y]))) b ∧ ∃ zs, zs.length = i + 1 ∧ (∀ y ∈ zs, good y) ∧ upd H4 D (.lst (acc ++ [y])) D = some (.lst zs))) _ (fun y H3 gy b3 e3 => ?_)
    refine ⟨ys, e3 D _ nDb hy, Evl.sz_lt (by omega), hi, ex (e1.trans e3), bx b3, ys ++ [y], by rw [List.length_append, hl]; rfl, fun z hz => ?_, upd_same⟩
    rcases List.mem_append.mp hz with h | h
    · exact hg z h
    · have : z = y := by simpa using h
      rw [this]
      exact gy
  · obtain ⟨_, e1, b1, ys, hl, hg, hy⟩ := p
    exact k ys D H' hl hg hD e1 b1 hy
end
theorem strs_of {P : Str → Prop} : ∀ {l : List V}, (∀ y ∈ l, ∃ s, y = .str s ∧ P s) → ∃ ss : List Str, l = ss.map V.str ∧ ∀ s ∈ ss, P s
  | [], _ => ⟨[], rfl, fun _ h => by cases h⟩
  | y :: l, h => by
    obtain ⟨s, rfl, hs⟩ := h y List.mem_cons_self
    obtain ⟨ss, rfl, hss⟩ := strs_of fun z hz => h z (List.mem_cons_of_mem _ hz)
    exact ⟨s :: ss, rfl, fun z hz => (List.mem_cons.mp hz).elim (fun e => e ▸ hs) (hss z)⟩
theorem joinL_in {S : List Nat} : ∀ {ps : List (List Nat)} {c : Nat}, c ∈ TL.joinL S ps → c ∈ S ∨ ∃ p ∈ ps, c ∈ p
  | [], c, h => by cases h
  | [p], c, h => .inr ⟨p, List.mem_cons_self, h⟩
  | p :: q :: ps, c, h => by
    have h' : c ∈ p ++ S ++ TL.joinL S (q :: ps) := by first | exact h | simpa [TL.joinL] using h
    rcases List.mem_append.mp h' with h | h
    · rcases List.mem_append.mp h with h | h
      · exact .inr ⟨p, List.mem_cons_self, h⟩
      · exact .inl h
    · rcases joinL_in h with h | ⟨r, hr, hc⟩
      · exact .inl h
      · exact .inr ⟨r, List.mem_cons_of_mem _ hr, hc⟩
theorem joinL_len {S : List Nat} {m : Nat} : ∀ {ps : List (List Nat)}, (∀ p ∈ ps, p.length ≤ m) → (TL.joinL S ps).length ≤ ps.length * (m + S.length)
  | [], _ => by simp [TL.joinL]
  | [p], h => by
    have := h p List.mem_cons_self
    show p.length ≤ _
    simp
    omega
  | p :: q :: ps, h => by
    have h1 := h p List.mem_cons_self
    have ih := joinL_len (S := S) (ps := q :: ps) fun r hr => h r (List.mem_cons_of_mem _ hr)
    have e : TL.joinL S (p :: q :: ps) = p ++ S ++ TL.joinL S (q :: ps) := by first | rfl | simp [TL.joinL]
    rw [e, List.length_append, List.length_append, List.length_cons, Nat.succ_mul]
    omega
theorem join_ok {sep : Str} {ss : List Str} {m : Nat} (ho : OkT sep) (hs : ∀ s ∈ ss, OkT s ∧ s.length ≤ m) : OkT (Txt.join sep ss) ∧ (Txt.join sep ss).length ≤ ss.length * (m + sep.length) := by
  rw [TL.join_eq]
  constructor
  · intro c hc
    rw [TL.tl_join] at hc
    rcases joinL_in hc with h | ⟨p, hp, h⟩
    · exact ho c h
    · obtain ⟨s, hs', rfl⟩ := List.mem_map.mp hp
      exact (hs s hs').1 c h
  · rw [← tl_len, TL.tl_join, ← tl_len sep]
    have := joinL_len (S := tl sep) (m := m) (ps := ss.map tl) fun p hp => by
      obtain ⟨s, hs', rfl⟩ := List.mem_map.mp hp
      rw [tl_len]
      exact (hs s hs').2
    rw [List.length_map] at this
    exact this
theorem sum_len {ss : List Str} {m : Nat} (h : ∀ s ∈ ss, s.length ≤ m) : (ss.map (·.length)).sum ≤ ss.length * m := by
  induction ss with
  | nil => simp
  | cons a l ih =>
    rw [List.map_cons, List.sum_cons, List.length_cons, Nat.succ_mul]
    have := h a List.mem_cons_self
    have := ih fun s hs => h s (List.mem_cons_of_mem _ hs)
    omega
end L2
namespace L2
open PySem PySem.Spec PyProof.Rows
theorem forLg {K : PySem.W.Frag} {σ : St} {H : Hp} {D : Ends} {g : TG} {tb : TS} {a : Addr} {xs : List V} (Pv : Nat → St → Hp → Prop) (h0 : Pv 0 σ H) (hl : ∀ i σ' H', i ≤ xs.length → Pv i σ' H' → SqL K H' a xs)
    (hs : ∀ i x σ' H', xs[i]? = some x → Pv i σ' H' → g x σ' H' fun σ2 H2 => tb { D with nx := Pv (i + 1), ct := Pv (i + 1), bk := D.nx } σ2 H2) (hd : ∀ σ' H', Pv xs.length σ' H' → D.nx σ' H') : ForI (Itl K a) g tb D σ H := for_list Pv h0 hl hs hd
theorem hu65 {A : Around} {k : Nat} (hr : Room k A) : A.units + 65 < cLine := by have := hr.un; omega
end L2

/-! ### own errors: made, held as values, read, asked for their class -/
namespace L2
open PySem PySem.Spec PyProof.Rows
def cBody (st : Stmt) : List Stmt := match st with
  | .ClassDef (body := l) .. => l
  | _ => []
/-- the class at C is an own error class over ValueError -/
def xcB (K : PySem.W.Frag) (C : Addr) : Bool := match K.lookup C with
  | some ⟨.type "type", _, .cls cd, sl⟩ => (match cd.mro, sl.toList with
    | .ref D :: bm, [_, _, _, _, some (.builtin n), _] => (D == C && n == "ValueError.__new__") && ((!cd.hasDel && cd.hasDict) && PySem.HandSPX.refsVE bm)
    | _, _ => false)
  | _ => false
def oxB (K : PySem.W.Frag) (C : Addr) : Bool :=
  (xcB K C && PySem.W.keepIn K (.ref C)) && (decide (PySem.W.findIn K (.ref C) "__setattr__" = some (some (.builtin "object.__setattr__"))) && decide (PySem.W.typeIn K (.ref C) = some (.type "type")))
def icB (K : PySem.W.Frag) (C : Addr) : Bool :=
  ((PySem.W.clsIn K C).isSome && xfB K C) && ((decide (PySem.W.findIn K (.ref C) "__class__" = some (some (.builtin "object.__class__"))) && decide (PySem.W.specialIn K (.builtin "object.__class__") "__get__" = some (some (.builtin "getset_descriptor.__get__")))) &&
    (decide (PySem.W.takesIn K (.builtin "object.__class__") = some true) && decide (PySem.W.mroIn K C (.type "object") = some true)))
def exB (K : PySem.W.Frag) (C : Addr) (fs : List Str) : Bool := (oxB K C && icB K C) && fs.all fun f => decide (PySem.W.findIn K (.ref C) f = some none)
structure IcC (K : PySem.W.Frag) (C : Addr) : Prop where
  cl : (PySem.W.clsIn K C).isSome = true
  xf : XfC K C
  ha : PySem.W.findIn K (.ref C) "__class__" = some (some (.builtin "object.__class__"))
  hn : PySem.W.specialIn K (.builtin "object.__class__") "__get__" = some (some (.builtin "getset_descriptor.__get__"))
  ht : PySem.W.takesIn K (.builtin "object.__class__") = some true
  hm : PySem.W.mroIn K C (.type "object") = some true
theorem icB_ok {K : PySem.W.Frag} {C : Addr} (h : icB K C = true) : IcC K C := by
  unfold icB at h
  simp only [Bool.and_eq_true, decide_eq_true_eq] at h
  obtain ⟨⟨h1, h2⟩, ⟨h3, h4⟩, h5, h6⟩ := h
  exact ⟨h1, xfB_ok h2, h3, h4, h5, h6⟩
structure ExF (K : PySem.W.Frag) (C : Addr) (fs : List Str) : Prop where
  ox : OexC K C
  ic : IcC K C
  no : ∀ f ∈ fs, PySem.W.findIn K (.ref C) f = some none
theorem exB_ok {K : PySem.W.Frag} {C : Addr} {fs : List Str} (h : exB K C fs = true) : ExF K C fs := by
  unfold exB at h
  rw [Bool.and_eq_true, Bool.and_eq_true] at h
  obtain ⟨⟨h1, h2⟩, h3⟩ := h
  have I := icB_ok h2
  refine ⟨?_, I, fun f hf => of_decide_eq_true (List.all_eq_true.mp h3 f hf)⟩
  unfold oxB at h1
  simp only [Bool.and_eq_true, decide_eq_true_eq] at h1
  obtain ⟨⟨q, hk⟩, hs, ht⟩ := h1
  refine ⟨?_, hs, I.xf.exC, ht, hk⟩
  unfold xcB at q
  split at q
  · rename_i dd cd sl ho
    split at q
    · rename_i D bm m0 m1 m2 m3 n m5 hm hl
      simp only [Bool.and_eq_true, beq_iff_eq, Bool.not_eq_true'] at q
      obtain ⟨⟨rfl, rfl⟩, ⟨hdel, hdct⟩, hr⟩ := q
      obtain ⟨nm, bs, mro, ns, qn, hd, sn, sub, ab, col, del⟩ := cd
      dsimp only at hm hdel hdct
      subst hm hdel hdct
      have e : sl = #[m0, m1, m2, m3, some (.builtin "ValueError.__new__"), m5] := by
        obtain ⟨l⟩ := sl
        simp only at hl
        rw [hl]
      subst e
      exact ⟨nm, qn, ns, bs, bm, sn, sub, ab, col, dd, m0, m1, m2, m3, m5, ho, hr⟩
    · cases q
  · cases q
/-- the class at B over which they stand -/
structure BaseC (K : PySem.W.Frag) (B : Addr) : Prop where
  rd : PySem.W.readsIn K B (.type "type") = true
  ga : PySem.W.specialIn K (.ref B) "__getattribute__" = some (some (.builtin "type.__getattribute__"))
  at_ : PySem.W.findCls K (.ref B) (.type "type") "__init__" = some (.val (.builtin "ValueError.__init__"))
def baseB (K : PySem.W.Frag) (B : Addr) : Bool := PySem.W.readsIn K B (.type "type") && (decide (PySem.W.specialIn K (.ref B) "__getattribute__" = some (some (.builtin "type.__getattribute__"))) && (match PySem.W.findCls K (.ref B) (.type "type") "__init__" with | some (.val (.builtin n)) => n == "ValueError.__init__" | _ => false))
theorem baseB_ok {K : PySem.W.Frag} {B : Addr} (h : baseB K B = true) : BaseC K B := by
  unfold baseB at h
  simp only [Bool.and_eq_true, decide_eq_true_eq] at h
  obtain ⟨h1, h2, h3⟩ := h
  split at h3
  · rename_i n e
    rw [beq_iff_eq] at h3
    subst h3
    exact ⟨h1, h2, e⟩
  · cases h3
section
variable {X : Cx} {a1 : Expr} {ar : List Expr} {ta : TA} {x : Str} {q1 q2 qc : Pos} {B : Addr}
theorem pe_binit {pl : Sem Bool} (hg : Gl X x) (hm : X.mg x = some (.ref B)) (T : BaseC X.K B) (ha : PA X (a1 :: ar) ta)
    (hcal : eval (.Call (.Attribute (.Name x q1) "__init__" q2) (a1 :: ar) [] qc) X.env = (eval (.Name x q1) X.env >>= fun ov => standAt q2.atName >>= fun _ => holding [ov] (getMethod ov "__init__" pl) >>= fun r => callWith qc r.1 r.2 (backTo qc (starEach (a1 :: ar) X.env)) (backToKw qc (keywordEach [] X.env))) := by rfl)
    (hst : starEach (a1 :: ar) X.env = (false, eval a1 X.env) :: starEach ar X.env := by rfl) (hps : (backTo qc (starEach ar X.env)).any (·.1) = false := by rfl) (hdb : (x == ("__debug__" : Str)) = false := by decide) :
    PE X (.Call (.Attribute (.Name x q1) "__init__" q2) (a1 :: ar) [] qc) (tVeI X.K ta) := by
  refine ⟨fun pins s σ H Q I h => ?_⟩
  refine PySem.W.methodCall_KW (ld_glob I hg hm ?_ hdb) hcal
  refine PySem.W.method_cls I.kIn T.ga (PySem.W.cls_value I.kIn T.rd T.at_ (by decide +kernel) ?_)
  show wpAny _ _ (callWith qc (Value.builtin "ValueError.__init__") [] (backTo qc (starEach (a1 :: ar) X.env)) []) _ _ _
  refine PyProof.Rows.callWith_method1 (thn (ha.run qc pins _ σ H _ (I.tok _) h) fun us s1 hh => ?_) hst hps
  obtain ⟨vs, H1, I1, r1, a, C, ws, ev, hl, OC, ea, q⟩ := hh
  subst ev
  cases r1 with
  | @cons _ u0 _ ur ra rr =>
    obtain rfl : u0 = Value.ref a := ra
    exact oinit_ok OC I1 ea (by rw [← Paired.length rr, sizeLine_eq]; omega) fun s' J => ⟨.non, H1, J, rfl, q⟩
/-- C(e, ..) as a value, its own __init__ keeping sp -/
def tMkV (C : Addr) (sp : Sp) (ta : TA) : TE := fun σ H Q => ta σ H fun vs H1 => vs.length ≤ 1000 ∧ ∀ a, H1 a = none → sp (.ref a :: vs) (upd H1 a (exo a C none)) (fun v H2 => v = .non ∧ Q (.ref a) H2) (fun _ _ _ => False)
theorem pe_mkv {CX : CXT} {C fI : Addr} {k : Nat} {fd : FuncData} {ps : List Str} {sp : Sp} (T : OexC X.K C) (iC : PySem.W.findIn X.K (.ref C) "__init__" = some (some (.ref fI))) (tI : PySem.W.typeIn X.K (.ref fI) = some (.type "function"))
    (F1 : FnOk X.prog X.w X.K X.mg X.base CX k fI fd ps sp) (hr : Room (k + 1) X.A) (hb : Binds X.K fd ps []) (hx : Passes CX X (fun _ _ _ => False)) (hg : Gl X x) (hm : X.mg x = some (.ref C)) (ha : PA X (a1 :: ar) ta)
    (hdb : (x == ("__debug__" : Str)) = false := by decide) (hst : starEach (a1 :: ar) X.env = (false, eval a1 X.env) :: starEach ar X.env := by rfl) (hps : (backTo qc (starEach ar X.env)).any (·.1) = false := by rfl) :
    PE X (.Call (.Name x q1) (a1 :: ar) [] qc) (tMkV C sp ta) := by
  refine ⟨fun pins s σ H Q I h => ?_⟩
  obtain ⟨nm, q, N, bs, bm, sn, sub, ab, col, dd, k0, k1, k2, k3, k5, hC, hbm⟩ := T.cls
  refine wpAny_Call_Name_kw (ld_glob I hg hm ?_ hdb)
  refine PySem.W.callWith_K (h₀ := X.base) I.ok.mod.kin T.kC (thn (ha.run qc pins s σ H _ I h) fun us s1 hh => ?_) hst hps
  obtain ⟨vs, H1, I1, r1, hz, qq⟩ := hh
  refine ⟨I1.kIn, ?_⟩
  show wpAny _ _ (call (.ref C) us) _ _ _
  obtain ⟨hp, g, dr, tk, os⟩ := s1
  have le1 : hp.objs.size ≤ hp.objs.size + 1 := Nat.le_succ _
  have hn : H1 (hp.objs.size + 1) = none := I1.hok.fresh le1
  have hq := qq (hp.objs.size + 1) hn
  have kep : ∀ b o, hp.get? b = some o → ((hp.push (PySem.W.kdv_tup us)).push (PySem.HandSPX.excO C hp.objs.size)).get? b = some o := fun b o z => Heap.get?_push_of_some _ (Heap.get?_push_of_some _ z)
  have hget : ((hp.push (PySem.W.kdv_tup us)).push (PySem.HandSPX.excO C hp.objs.size)).get? (hp.objs.size + 1) = some (PySem.HandSPX.excO C hp.objs.size) := by heap_get
  have J2 : Inv X pins σ (upd H1 (hp.objs.size + 1) (exo (hp.objs.size + 1) C none)) ⟨(hp.push (PySem.W.kdv_tup us)).push (PySem.HandSPX.excO C hp.objs.size), g, dr, tk, os⟩ :=
    I1.laid (t' := tk) (a := hp.objs.size + 1) (o := exo (hp.objs.size + 1) C none) (h' := (hp.push (PySem.W.kdv_tup us)).push (PySem.HandSPX.excO C hp.objs.size)) kep le1 (exo_ok hget)
  have rv2 : Vals (V.ref (hp.objs.size + 1) :: vs) (Value.ref (hp.objs.size + 1) :: us) := .cons rfl r1
  have hlen : (Value.ref (hp.objs.size + 1) :: us ++ []).length = ps.length := by
    have z := rv2.length
    rw [F1.len _ _ _ _ hq] at z
    rw [List.append_nil]
    exact z.symm
  have hus : us.length ≤ sizeLine := by
    rw [← Paired.length r1, sizeLine_eq]
    omega
  refine wpAny_call (PySem.HandSPX.call_own F.excBase_ValueError (fun Y => PySem.HandSPX.refsVE_contains Y bm hbm) (I1.kIn _ _ hC) (PySem.W.looks_findIn I1.kIn iC) (fun self => PySem.W.bind_fn I1.kIn self tI) hus ?_)
  have hbb := hb _ (Value.ref (hp.objs.size + 1) :: us) J2.kIn hlen
  rw [List.append_nil] at hbb
  refine codeAny_mono (F1.run _ X.stack _ _ ⟨Value.ref (hp.objs.size + 1) :: us, []⟩ (Value.ref (hp.objs.size + 1) :: us) _ _ (fun _ _ _ => False) (hr.make C us []) (J2.env0.make C us []) hbb rv2 hq) fun r s' hq' => ?_
  cases r with
  | error er => exact hx pins σ _ _ er s' J2 hq'
  | ok fl =>
    cases fl with
    | ret u =>
      obtain ⟨v, H2, os2, bare2, un2, hok2, rv, ev, q2⟩ := hq'
      subst ev
      exact ⟨rv, .ref _, H2, J2.call' (ch := []) os2 un2 hok2 bare2 (fun b z => absurd z (by simp)), rfl, q2⟩
    | next => exact False.elim hq'
    | brk => exact False.elim hq'
    | cont => exact False.elim hq'
/-- an error of the class at D stands at a -/
def ErrAt (H : Hp) (a D : Addr) : Prop := (∃ (d : Addr) (fs : List (Str × V)), H a = some (exo a D (some d)) ∧ H d = some (exd d fs)) ∨ H a = some (ExO (.ref D) a)
theorem err_inst {pins : List (Addr × Obj)} {σ : St} {H : Hp} {s : Shared} {a D : Addr} (I : Inv X pins σ H s) (h : ErrAt H a D) : ∃ ox od, PySem.W.InstAt s.heap a ox D od := by
  rcases h with ⟨d, fs, h1, h2⟩ | h1
  · obtain ⟨t1, ho⟩ := exo_at I.hok h1
    obtain ⟨mA, hns, _⟩ := exd_at I.hok h2
    obtain ⟨od, hod, _⟩ := lookIn_ns hns
    exact ⟨_, some od, ho, rfl, rfl, hod⟩
  · have z : ObjOk X.prog X.w H s.heap a (ExO (.ref D) a) := I.hok a _ h1
    obtain ⟨⟨oe, vs, e, zc, d, _⟩, _⟩ := z
    refine ⟨oe, none, e, zc.1, by unfold PySem.W.notCls; rw [d] <;> rfl, ?_⟩
    rw [zc.2]
    trivial
/-- isinstance(e, c) of such an error -/
def rIsX (K : PySem.W.Frag) : List V → Hp → VK → Prop := fun xs H Q => ∃ (a D : Addr) (c : V) (cv : Value) (b : Bool), xs = [.ref a, c] ∧ ClsV c cv ∧ IcC K D ∧ ErrAt H a D ∧ PySem.W.kitOne K (.ref D) cv = some b ∧ Q (.bl b) H
theorem call_isX : CallR X (.builtin "isinstance") (rIsX X.K) := by
  intro pins s σ H xs us Q I r h
  obtain ⟨a, D, c, cv, b, rfl, hcv, C, he, e, q⟩ := h
  cases r with
  | cons rx rr =>
    cases rr with
    | cons rt rn =>
      cases rn
      cases rx
      have ec := hcv.eq rt
      subst ec
      obtain ⟨ox, od, J⟩ := err_inst I he
      exact PySem.W.kia_one (PySem.W.kitx_exc C.cl C.xf.ga C.xf.gg C.xf.exC C.ha C.hn C.ht C.hm) I.kIn J e (fun z => nomatch z) fun tk => ⟨.bl b, H, I.kept (t' := tk) fun _ _ z => z, rfl, q⟩
/-- e.f of such an error -/
def tXfV (K : PySem.W.Frag) (f : Str) (te : TE) : TE := fun σ H Q => te σ H fun x H1 => ∃ (a C d : Addr) (fs : List (Str × V)) (v : V), x = .ref a ∧ XfC K C ∧ PySem.W.findIn K (.ref C) f = some none ∧ H1 a = some (exo a C (some d)) ∧ H1 d = some (exd d fs) ∧ fs.lookup f = some v ∧ Q v H1
theorem pe_xfv {e : Expr} {te : TE} {f : Str} (he : PE X e te) (hb : attributeBase e f X.env (eval e X.env) = eval e X.env := by rfl) : PE X (.Attribute e f qc) (tXfV X.K f te) := by
  refine ⟨fun pins s σ H Q I h => ?_⟩
  refine attr_of hb (thn (he.run pins s σ H _ I h) fun u s1 hh => ?_)
  obtain ⟨x, H1, I1, rx, a, C, d, fs, v, rfl, T, hno, ea, ed, l, q⟩ := hh
  obtain rfl : u = Value.ref a := rx
  obtain ⟨t1, ho⟩ := exo_at I1.hok ea
  obtain ⟨mA, hns, hr⟩ := exd_at I1.hok ed
  obtain ⟨od, hod, hl⟩ := lookIn_ns hns
  obtain ⟨u, hu, ru⟩ := RelO.some_of (v := v) (o := mA f) (by rw [← l]; exact hr f)
  have J : PySem.W.InstAt s1.heap a _ C (some od) := ⟨ho, rfl, rfl, hod⟩
  exact HandSPX.exc_get I1.kIn J T.ga T.gg T.exC (PySem.W.findObj_own T.hdC hno rfl (by rw [hl, hu])) (handed_of ru) ⟨v, H1, I1.tok _, ru, q⟩
/-- one rule or the other -/
theorem op_or2 {f : Value → Value → Sem Value} {r r' : R2} (h : OpR X f r) (h' : OpR X f r') : OpR X f (fun x y H Q => r x y H Q ∨ r' x y H Q) := by
  intro pins s σ H x y v u Q I rx ry q
  rcases q with q | q
  · exact h pins s σ H x y v u Q I rx ry q
  · exact h' pins s σ H x y v u Q I rx ry q
end
end L2
namespace L2
open PySem PySem.Spec PyProof.Rows
/-- what __init__ of such a class keeps: one field, two fields -/
def sp_err1 (C : Addr) (f : Str) : Sp := fun vs H Q _ => ∃ (a : Addr) (v : V), vs = [.ref a, v] ∧ H a = some (exo a C none) ∧ ∀ d H2, H d = none → d ≠ a → (∀ b, b ≠ a → b ≠ d → H2 b = H b) → H2 a = some (exo a C (some d)) → H2 d = some (exd d [(f, v)]) → Q .non H2
def sp_err2 (C : Addr) (f g : Str) : Sp := fun vs H Q _ => ∃ (a : Addr) (v w : V), vs = [.ref a, v, w] ∧ H a = some (exo a C none) ∧ ∀ d H2, H d = none → d ≠ a → (∀ b, b ≠ a → b ≠ d → H2 b = H b) → H2 a = some (exo a C (some d)) → H2 d = some (exd d [(g, w), (f, v)]) → Q .non H2
section
variable {K : PySem.W.Frag} {C a : Addr} {f g z : Str} {v w : V} {H : Hp} {Q : VK}
theorem err1_run (T : OexC K C) (n1 : PySem.W.findIn K (.ref C) f = some none) (ha : H a = some (exo a C none)) (k : ∀ d H2, H d = none → d ≠ a → (∀ b, b ≠ a → b ≠ d → H2 b = H b) → H2 a = some (exo a C (some d)) → H2 d = some (exd d [(f, v)]) → Q .non H2) :
    tSeq (tDrop (tVeI K (tCons (tVar 0) (tCons (tC (.str z)) tNil)))) (tOst K f (tVar 0) (tVar 1)) { nx := fun _ H' => Q .non H', rt := Q } [some (.ref a), some v] H := by
  refine ⟨_, rfl, a, C, _, rfl, (by show 1 ≤ 1000; omega), T, ha, _, rfl, _, rfl, a, C, rfl, T, n1, .inl ⟨ha, fun d hd hne => ?_⟩⟩
  refine k d _ hd hne (fun b h1 h2 => by rw [upd_ne h1, upd_ne h2]) upd_same ?_
  rw [upd_ne hne, upd_same]
theorem err2_run (T : OexC K C) (n1 : PySem.W.findIn K (.ref C) f = some none) (n2 : PySem.W.findIn K (.ref C) g = some none) (ha : H a = some (exo a C none)) (k : ∀ d H2, H d = none → d ≠ a → (∀ b, b ≠ a → b ≠ d → H2 b = H b) → H2 a = some (exo a C (some d)) → H2 d = some (exd d [(g, w), (f, v)]) → Q .non H2) :
    tSeq (tDrop (tVeI K (tCons (tVar 0) (tCons (tC (.str z)) tNil)))) (tSeq (tOst K f (tVar 0) (tVar 1)) (tOst K g (tVar 0) (tVar 2))) { nx := fun _ H' => Q .non H', rt := Q } [some (.ref a), some v, some w] H := by
  refine ⟨_, rfl, a, C, _, rfl, (by show 1 ≤ 1000; omega), T, ha, _, rfl, _, rfl, a, C, rfl, T, n1, .inl ⟨ha, fun d hd hne => ?_⟩⟩
  have e1 : upd (upd H d (exd d [(f, v)])) a (exo a C (some d)) d = some (exd d [(f, v)]) := by rw [upd_ne hne, upd_same]
  refine ⟨_, rfl, _, rfl, a, C, rfl, T, n2, .inr ⟨d, _, upd_same, e1, (by show 1 ≤ 900; omega), ?_⟩⟩
  refine k d _ hd hne (fun b h1 h2 => by rw [upd_ne h2, upd_ne h1, upd_ne h2]) ?_ upd_same
  rw [upd_ne hne.symm, upd_same]
theorem c_xfv {te : TE} {σ : St} (h : te σ H fun x H1 => ∃ (a C d : Addr) (fs : List (Str × V)) (v : V), x = .ref a ∧ XfC K C ∧ PySem.W.findIn K (.ref C) f = some none ∧ H1 a = some (exo a C (some d)) ∧ H1 d = some (exd d fs) ∧ fs.lookup f = some v ∧ Q v H1) : tXfV K f te σ H Q := h
/-- the same, what is asked told by one word -/
def MkE (C : Addr) (sp : Sp) (vs : List V) (H : Hp) (Q : VK) : Prop := vs.length ≤ 1000 ∧ ∀ a, H a = none → sp (.ref a :: vs) (upd H a (exo a C none)) (fun v H2 => v = .non ∧ Q (.ref a) H2) (fun _ _ _ => False)
theorem c_mkv {sp : Sp} {ta : TA} {σ : St} (h : ta σ H fun vs H1 => MkE C sp vs H1 Q) : tMkV C sp ta σ H Q := h
/-- an error of the class at C with these fields, at a, its dict at d -/
def Er (H : Hp) (a C d : Addr) (fs : List (Str × V)) : Prop := H a = some (exo a C (some d)) ∧ H d = some (exd d fs)
theorem Er.up {H H2 : Hp} {a C d : Addr} {fs : List (Str × V)} (h : Er H a C d fs) (e : Evl.Ex H H2) : Er H2 a C d fs := ⟨e _ _ h.1, e _ _ h.2⟩
theorem Er.at {H : Hp} {a C d : Addr} {fs : List (Str × V)} (h : Er H a C d fs) : ErrAt H a C := .inl ⟨d, fs, h.1, h.2⟩
theorem mkv1 (k : ∀ a d H2, H a = none → H d = none → Evl.Ex H H2 → Er H2 a C d [(f, v)] → Q (.ref a) H2) : MkE C (sp_err1 C f) [v] H Q := by
  refine ⟨by show 1 ≤ 1000; omega, fun a ha => ⟨a, v, rfl, upd_same, fun d H2 hd hne hk h1 h2 => ⟨rfl, ?_⟩⟩⟩
  rw [upd_ne hne] at hd
  refine k a d H2 ha hd (fun b o hb => ?_) ⟨h1, h2⟩
  have nb := ne_of_none hb ha
  rw [hk b nb (ne_of_none hb hd), upd_ne nb]
  exact hb
theorem mkv2 (k : ∀ a d H2, H a = none → H d = none → Evl.Ex H H2 → Er H2 a C d [(g, w), (f, v)] → Q (.ref a) H2) : MkE C (sp_err2 C f g) [v, w] H Q := by
  refine ⟨by show 2 ≤ 1000; omega, fun a ha => ⟨a, v, w, rfl, upd_same, fun d H2 hd hne hk h1 h2 => ⟨rfl, ?_⟩⟩⟩
  rw [upd_ne hne] at hd
  refine k a d H2 ha hd (fun b o hb => ?_) ⟨h1, h2⟩
  have nb := ne_of_none hb ha
  rw [hk b nb (ne_of_none hb hd), upd_ne nb]
  exact hb
end
end L2
namespace L2
open PySem PySem.Spec PyProof.Rows
/-- of the error classes Cs each is of itself alone, of B, of ValueError -/
def kinB (K : PySem.W.Frag) (Cs : List Addr) : Bool := (List.range Cs.length).all fun i => (List.range Cs.length).all fun j => match Cs[i]?, Cs[j]? with
  | some D, some C => decide (PySem.W.kitOne K (.ref D) (.ref C) = some (decide (i = j)))
  | _, _ => true
def famB (K : PySem.W.Frag) (B : Addr) (Cs : List Addr) : Bool := (Cs.all fun D => decide (PySem.W.kitOne K (.ref D) (.ref B) = some true) && (decide (PySem.W.kitOne K (.ref D) (.type "ValueError") = some true) && decide (PySem.W.kitOne K (.ref B) (.ref D) = some false))) && (decide (PySem.W.kitOne K (.ref B) (.type "ValueError") = some true) && kinB K Cs)
structure Fam (K : PySem.W.Frag) (B : Addr) (Cs : List Addr) : Prop where
  b : ∀ D ∈ Cs, PySem.W.kitOne K (.ref D) (.ref B) = some true
  v : ∀ D ∈ Cs, PySem.W.kitOne K (.ref D) (.type "ValueError") = some true
  n : ∀ D ∈ Cs, PySem.W.kitOne K (.ref B) (.ref D) = some false
  bv : PySem.W.kitOne K (.ref B) (.type "ValueError") = some true
  k : ∀ (i j : Nat) (D C : Addr), Cs[i]? = some D → Cs[j]? = some C → PySem.W.kitOne K (.ref D) (.ref C) = some (decide (i = j))
theorem famB_ok {K : PySem.W.Frag} {B : Addr} {Cs : List Addr} (h : famB K B Cs = true) : Fam K B Cs := by
  unfold famB at h
  rw [Bool.and_eq_true, Bool.and_eq_true] at h
  obtain ⟨h1, h2, h3⟩ := h
  have h1' := List.all_eq_true.mp h1
  simp only [Bool.and_eq_true, decide_eq_true_eq] at h1'
  refine ⟨fun D hD => (h1' D hD).1, fun D hD => (h1' D hD).2.1, fun D hD => (h1' D hD).2.2, of_decide_eq_true h2, fun i j D C hi hj => ?_⟩
  unfold kinB at h3
  have q := List.all_eq_true.mp (List.all_eq_true.mp h3 i (List.mem_range.mpr (List.getElem?_eq_some_iff.mp hi).1)) j (List.mem_range.mpr (List.getElem?_eq_some_iff.mp hj).1)
  rw [hi, hj] at q
  exact of_decide_eq_true q
theorem ErrAt.up {H H2 : Hp} {a D : Addr} (h : ErrAt H a D) (e : Evl.Ex H H2) : ErrAt H2 a D := by
  rcases h with ⟨d, fs, h1, h2⟩ | h1
  · exact .inl ⟨d, fs, e _ _ h1, e _ _ h2⟩
  · exact .inr (e _ _ h1)
theorem is_x {K : PySem.W.Frag} {H : Hp} {Q : VK} {a D : Addr} {c : V} {cv : Value} {b : Bool} (hc : ClsV c cv) (ic : IcC K D) (h : ErrAt H a D) (e : PySem.W.kitOne K (.ref D) cv = some b) (q : Q (.bl b) H) : rIsX K [.ref a, c] H Q := ⟨a, D, c, cv, b, rfl, hc, ic, h, e, q⟩
end L2

/-! ### more loops, more comparisons -/
namespace L2
open PySem PySem.Spec PyProof.Rows
section
variable {K : PySem.W.Frag} {σ : St} {H : Hp} {D : Ends} {Q : VK} {g : TG} {tb : TS} {tt : TT} {te : TE} {vs : List Nat} {ta : TA}
theorem c_forE (h : ta σ H fun ws H1 => ∃ a xs, ws = [.ref a] ∧ SqL K H1 a xs ∧ ForI (Ite K a) g tb D σ H1) : tFor (iEnum K ta) g tb D σ H := h
theorem c_lcZi (h : ta σ H fun ws H1 => ∃ a b xs ys, ws = [.ref a, .ref b] ∧ SqL K H1 a xs ∧ SqL K H1 b ys ∧ LcI (Itz K a b) g tt te vs σ H1 Q) : tLc (iZip K ta) g tt te vs σ H Q := h
/-- for i, x in enumerate(l) -/
theorem forE {a : Addr} {xs : List V} (Pv : Nat → St → Hp → Prop) (h0 : Pv 0 σ H) (hl : ∀ i σ' H', i ≤ xs.length → Pv i σ' H' → SqL K H' a xs)
    (hs : ∀ i x T σ' H', xs[i]? = some x → Pv i σ' H' → H' T = none → g (.ref T) σ' (upd H' T (.tup [.int (i : Nat), x])) fun σ2 H2 => tb { D with nx := Pv (i + 1), ct := Pv (i + 1), bk := D.nx } σ2 H2)
    (hd : ∀ σ' H', Pv xs.length σ' H' → D.nx σ' H') : ForI (Ite K a) g tb D σ H :=
  for_it walk_enum Pv h0 (fun i σ' H' hi p => hl i σ' H' hi p) (fun i v σ' H' H'' hi p y => by
    obtain ⟨T, x, z, rfl, hT, rfl, ex, ez⟩ := y
    cases ex
    exact hs i z T σ' H' ez p hT) hd
/-- [.. for x in l], each thing made so that P holds of it, whatever is done to the list or made behind it -/
theorem lcLP {a : Addr} {xs : List V} (P : Addr → Nat → V → Hp → Prop) (hst : ∀ D i y G G2, ExB D G G2 → P D i y G → P D i y G2) (hs : SqL K H a xs) (hn : xs.length ≤ 1000)
    (ht : ∀ (D : Addr) (i : Nat) (x : V), H D = none → xs[i]? = some x → ∀ H2, Evl.Ex H H2 → (∃ o, H2 D = some o) → ∀ (R : V → Hp → Prop) (N : Hp → Prop), (∀ y H3, Evl.Ex H2 H3 → P D i y H3 → R y H3) →
      g x (wipe σ vs) H2 fun σ2 H3 => wipe σ2 vs = wipe σ vs ∧ tt σ2 H3 fun c H4 => if c = true then te σ2 H4 fun y H5 => R y H5 else N H4)
    (k : ∀ ys p H2, ys.length = xs.length → (∀ i y, ys[i]? = some y → P p i y H2) → H p = none → Evl.Ex H H2 → H2 p = some (.lst ys) → Q (.ref p) H2) : LcI (Itl K a) g tt te vs σ H Q := by
  refine fun D hD => ?_
  have ex : ∀ {G : Hp} {o : HO}, Evl.Ex H G → Evl.Ex H (upd G D o) := fun e b u hb => by rw [upd_ne (ne_of_none hb hD)]; exact e b u hb
  refine lc_list (xs := xs) (fun i H' => i ≤ xs.length ∧ Evl.Ex H H' ∧ ∃ ys, ys.length = i ∧ (∀ j y, ys[j]? = some y → P D j y H') ∧ H' D = some (.lst ys))
    ⟨Nat.zero_le _, ex (Evl.Ex.refl _), [], rfl, (fun j y h => by simp at h), upd_same⟩ (fun i H' _ p => Evl.ex_l p.2.1 hs) (fun i x H' hi p => ?_) (fun H' p => ?_)
  · obtain ⟨_, e1, ys, hl, hy, hD'⟩ := p
    have hil := (List.getElem?_eq_some_iff.mp hi).1
    refine ht D i x hD hi H' e1 ⟨_, hD'⟩ (fun y H4 => ∃ acc, H4 D = some (.lst acc) ∧ acc.length < sizeLine ∧ (i + 1 ≤ xs.length ∧ Evl.Ex H (upd H4 D (.lst (acc ++ [y]))) ∧ ∃ zs, zs.length = i + 1 ∧ (∀ j y2, zs[j]? = some y2 → P D j y2 (upd H4 D (.lst (acc ++ [y])))) ∧ upd H4 D (.lst (acc ++ [y])) D = some (.lst zs))) _ (fun y H3 e3 py => ?_)
    have eD : ExB D H3 (upd H3 D (.lst (ys ++ [y]))) := fun b o nb hb => by rw [upd_ne nb]; exact hb
    refine ⟨ys, e3 _ _ hD', Evl.sz_lt (by omega), hil, ex (e1.trans e3), ys ++ [y], by rw [List.length_append, hl]; rfl, fun j y2 hj => ?_, upd_same⟩
    rcases Nat.lt_or_ge j ys.length with h | h
    · rw [List.getElem?_append_left h] at hj
      exact hst _ _ _ _ _ eD (hst _ _ _ _ _ (fun b o _ hb => e3 b o hb) (hy j y2 hj))
    · rw [List.getElem?_append_right h] at hj
      have hj0 : j - ys.length = 0 := by
        have := (List.getElem?_eq_some_iff.mp hj).1
        rw [List.length_singleton] at this
        omega
      rw [hj0] at hj
      have hyy : y = y2 := by simpa using hj
      subst hyy
      have : j = i := by omega
      subst this
      exact hst _ _ _ _ _ eD py
  · obtain ⟨_, e1, ys, hl, hy, hD'⟩ := p
    exact k ys D H' hl hy hD e1 hD'
/-- what stands outside of S stays -/
def ExS (S : Addr → Prop) (H H2 : Hp) : Prop := ∀ a o, ¬ S a → H a = some o → H2 a = some o
theorem ExS.refl {S : Addr → Prop} (H : Hp) : ExS S H H := fun _ _ _ h => h
theorem ExS.trans {S : Addr → Prop} {H H2 H3 : Hp} (h : ExS S H H2) (k : ExS S H2 H3) : ExS S H H3 := fun a o n q => k a o n (h a o n q)
theorem ExS.of {S : Addr → Prop} {H H2 : Hp} (h : Evl.Ex H H2) : ExS S H H2 := fun a o _ q => h a o q
/-- [f(x, y) for x, y in zip(l, m)], where each answer is True, and only what is in S may change -/
theorem lcZ {S : Addr → Prop} {a b : Addr} {xs ys : List V} (J : Nat → Hp → Prop) (hab : xs.length = ys.length) (hn : xs.length ≤ 1000) (ha : ∀ G, ExS S H G → SqL K G a xs) (hb : ∀ G, ExS S H G → SqL K G b ys) (h0 : J 0 H) (hJ : ∀ i G D o, H D = none → J i G → J i (upd G D o)) (hS : ∀ z, S z → H z ≠ none)
    (ht : ∀ (i : Nat) (x y : V), xs[i]? = some x → ys[i]? = some y → ∀ H2 T, ExS S H H2 → J i H2 → H2 T = none → ∀ (R : V → Hp → Prop) (N : Hp → Prop), (∀ H3, ExS S (upd H2 T (.tup [x, y])) H3 → J (i + 1) H3 → R (.bl true) H3) →
      g (.ref T) (wipe σ vs) (upd H2 T (.tup [x, y])) fun σ2 H3 => wipe σ2 vs = wipe σ vs ∧ tt σ2 H3 fun c H4 => if c = true then te σ2 H4 fun y H5 => R y H5 else N H4)
    (k : ∀ p H2, H p = none → ExS S H H2 → J xs.length H2 → H2 p = some (.lst (List.replicate xs.length (.bl true))) → Q (.ref p) H2) : LcI (Itz K a b) g tt te vs σ H Q := by
  refine fun D hD => ?_
  have nSD : ¬ S D := fun z => hS D z hD
  have ex : ∀ {G : Hp} {o : HO}, ExS S H G → ExS S H (upd G D o) := fun e c u nc hc => by rw [upd_ne (ne_of_none hc hD)]; exact e c u nc hc
  refine lc_it (walk_zip (xs := xs) (ys := ys) (n := xs.length) (by omega)) (fun i H' => i ≤ xs.length ∧ ExS S H H' ∧ J i H' ∧ H' D = some (.lst (List.replicate i (.bl true)))) ⟨Nat.zero_le _, ex (ExS.refl _), hJ _ _ _ _ hD h0, upd_same⟩ (fun i H' _ p => ⟨ha _ p.2.1, hb _ p.2.1⟩) (fun i v H' H'' hi p y => ?_) (fun H' p => k D H' hD p.2.1 p.2.2.1 p.2.2.2)
  obtain ⟨T, x, z, rfl, hT, rfl, ex1, ez⟩ := y
  obtain ⟨_, e1, j1, hD'⟩ := p
  have nTD : D ≠ T := ne_of_none hD' hT
  refine ht i x z ex1 ez H' T e1 j1 hT (fun y H4 => ∃ acc, H4 D = some (.lst acc) ∧ acc.length < sizeLine ∧ (i + 1 ≤ xs.length ∧ ExS S H (upd H4 D (.lst (acc ++ [y]))) ∧ J (i + 1) (upd H4 D (.lst (acc ++ [y]))) ∧ upd H4 D (.lst (acc ++ [y])) D = some (.lst (List.replicate (i + 1) (.bl true))))) _ (fun H3 e3 j3 => ?_)
  refine ⟨_, e3 D _ nSD (by rw [upd_ne nTD]; exact hD'), ?_, hi, ex ?_, hJ _ _ _ _ hD j3, ?_⟩
  · rw [List.length_replicate]
    exact Evl.sz_lt (by omega)
  · refine fun c o nc hc => e3 c o nc ?_
    have h1 := e1 c o nc hc
    rw [upd_ne (ne_of_none h1 hT)]
    exact h1
  · rw [upd_same, List.replicate_succ'] <;> rfl
end
/-! == and != of dicts of flat things -/
def eqK (ks ls : List (Key × V)) : Bool := ks.length == ls.length && ks.all fun p => match valV ls p.1 with
  | some u => eqV p.2 u
  | none => false
section
variable {X : Cx} {pins : List (Addr × Obj)} {σ : St} {H : Hp} {s : Shared}
theorem hitsK (I : Inv X pins σ H s) (hu : X.A.units + 66 < cLine) {ls : List (Key × V)} {vb : List (Key × Value)} (rb : KV ls vb) (fl : ∀ k u, valV ls k = some u → okV u = true) {ks : List (Key × V)} {va : List (Key × Value)} (ra : KV ks va) (fk : ∀ p ∈ ks, okV p.2 = true) :
    PySem.W.KeqHits X.A.in1 s vb va (ks.all fun p => match valV ls p.1 with | some u => eqV p.2 u | none => false) := by
  unfold KV at ra
  induction ra with
  | nil => exact .nil
  | @cons p q ps qs h t ih =>
    obtain ⟨key, v⟩ := q
    obtain ⟨h1, h2⟩ := h
    have h1' : p.1 = key := h1
    have ih' := ih fun p' hm => fk p' (List.mem_cons_of_mem _ hm)
    rw [List.all_cons]
    have rr : RelO (valV ls p.1) (PySem.valueAt vb p.1) := rb.val p.1
    rw [h1'] at rr ⊢
    cases e : valV ls key with
    | none =>
      rw [e] at rr
      cases e2 : PySem.valueAt vb key with
      | none => exact .miss e2
      | some y =>
        rw [e2] at rr
        exact rr.elim
    | some u =>
      rw [e] at rr
      obtain ⟨y, hy, ry⟩ := rr.some_of
      have fp := fk p List.mem_cons_self
      have fu := fl key u e
      obtain ⟨as, r1⟩ := Dp.reads I (dOf p.2) p.2 v (dp_flat (okV_flat fp)) h2
      obtain ⟨bs, r2⟩ := Dp.reads I (dOf u) u y (dp_flat (okV_flat fu)) ry
      have z := PySem.W.keq_at (A := X.A) r1 r2 (shaped_flat fp) (shaped_flat fu) (by show X.A.units + 1 + 64 < cLine; omega)
      rw [eqv_flat (okV_flat fp) (okV_flat fu)] at z
      exact .hit hy z ih'
def rEqK : R2 := fun x y H Q => ∃ (a b : Addr) (ks ls : List (Key × V)), x = .ref a ∧ y = .ref b ∧ H a = some (.dK ks) ∧ H b = some (.dK ls) ∧ (∀ p ∈ ks, okV p.2 = true) ∧ (∀ k u, valV ls k = some u → okV u = true) ∧ Q (.bl (eqK ks ls)) H
def rNeK : R2 := fun x y H Q => ∃ (a b : Addr) (ks ls : List (Key × V)), x = .ref a ∧ y = .ref b ∧ H a = some (.dK ks) ∧ H b = some (.dK ls) ∧ (∀ p ∈ ks, okV p.2 = true) ∧ (∀ k u, valV ls k = some u → okV u = true) ∧ Q (.bl (!eqK ks ls)) H
theorem op_eqK (hu : X.A.units + 66 < cLine) : OpR X (compareOp .Eq) rEqK := by
  intro pins s σ H x y v u Q I rx ry h
  obtain ⟨a, b, ks, ls, rfl, rfl, ha, hb, fk, fl, q⟩ := h
  cases (show v = Value.ref a from rx)
  cases (show u = Value.ref b from ry)
  obtain ⟨_, ya, va, ra, da⟩ := (show ObjOk X.prog X.w H s.heap a (.dK ks) from I.hok a _ ha)
  obtain ⟨_, yb, vb, rb, db⟩ := (show ObjOk X.prog X.w H s.heap b (.dK ls) from I.hok b _ hb)
  refine PySem.W.keq_eq (knd := mixKind X.prog X.w) ya yb da db (by omega) (fun _ => hitsK I hu rb fl ra fk) ?_
  rw [← ra.length, ← rb.length]
  exact ⟨.bl _, H, I, rfl, q⟩
theorem op_neK (hu : X.A.units + 66 < cLine) : OpR X (compareOp .NotEq) rNeK := by
  intro pins s σ H x y v u Q I rx ry h
  obtain ⟨a, b, ks, ls, rfl, rfl, ha, hb, fk, fl, q⟩ := h
  cases (show v = Value.ref a from rx)
  cases (show u = Value.ref b from ry)
  obtain ⟨_, ya, va, ra, da⟩ := (show ObjOk X.prog X.w H s.heap a (.dK ks) from I.hok a _ ha)
  obtain ⟨_, yb, vb, rb, db⟩ := (show ObjOk X.prog X.w H s.heap b (.dK ls) from I.hok b _ hb)
  refine PySem.W.keq_ne (knd := mixKind X.prog X.w) ya yb da db (by omega) (fun _ => hitsK I hu rb fl ra fk) ?_
  rw [← ra.length, ← rb.length]
  exact ⟨.bl _, H, I, rfl, q⟩
end
theorem hu66 {A : Around} {k : Nat} (hr : Room k A) : A.units + 66 < cLine := by have := hr.un; omega
end L2

open L2 in
local macro_rules | `(tactic| walk_at "s") => `(tactic| with_reducible (first
  | refine c_var (by with_unfolding_all rfl) ?_ | refine c_c ?_ | refine c_op ?_ | refine c_test ?_ | refine c_cons ?_ | refine c_nil ?_ | refine c_call ?_ | refine c_cb ?_ | refine c_seq ?_ | refine c_asg ?_ | refine c_gName ?_ | refine c_ret ?_ | refine c_ifS ?_
  | refine c_nx ?_ | refine c_rt ?_ | refine c_bk ?_ | refine c_ct ?_ | refine c_next ?_ | refine c_drop ?_ | refine c_un ?_ | refine c_b ?_ | refine c_and ?_ | refine c_or ?_ | refine c_not ?_ | refine c_andV ?_ | refine c_orV ?_ | refine c_notV ?_ | refine c_if ?_
  | refine c_tup ?_ | refine c_lst ?_ | refine c_sl ?_ | refine c_noPart ?_ | refine c_part ?_ | refine c_bm ?_ | refine c_bm0 ?_ | refine c_m0 ?_ | refine c_m1 ?_ | refine c_chain ?_ | refine c_retN ?_ | refine c_gCons ?_ | refine c_gNil ?_ | refine c_gSub ?_
  | refine c_I0 ?_ | refine c_U ?_ | refine c_eq (by with_unfolding_all rfl) ?_ | refine c_ne (by with_unfolding_all rfl) ?_ | refine c_yes ?_ | refine c_forS ?_ | refine c_lcSi ?_ | refine c_forR1 ?_ | refine c_forR2 ?_ | refine c_forL ?_ | refine c_forT ?_ | refine c_lcR1 ?_ | refine c_lcLi ?_ | refine c_lcTi ?_ | refine c_forE ?_ | refine c_lcZi ?_ | refine c_xfv ?_ | refine c_mkv ?_ | refine c_break ?_ | refine c_cont ?_ | refine c_orT ?_ | refine c_andT ?_ | refine c_notT ?_ | refine iteT ?_ | refine iteF ?_ | refine if_nt ?_ | refine if_nf ?_
  | refine ⟨_, rfl, ?_⟩ | refine ⟨_, _, rfl, rfl, ?_⟩ | refine And.intro rfl ?_))
local macro_rules | `(tactic| walk_at "ss") => `(tactic| repeat (walk_at "s"))

namespace Toy
open PySem L2
open Evl hiding RetV RetL
def top (i : Nat) : Stmt := PySem.Challenge.pw_beatrows_k15_refusals_apart.main.body.getD i (.Pass ⟨0, 0, 0, 0⟩)
abbrev s_NoNumber_init : Stmt := (cBody (top 2)).getD 0 (.Pass ⟨0, 0, 0, 0⟩)
abbrev s_NoValue_init : Stmt := (cBody (top 3)).getD 0 (.Pass ⟨0, 0, 0, 0⟩)
abbrev s_NoName_init : Stmt := (cBody (top 4)).getD 0 (.Pass ⟨0, 0, 0, 0⟩)
abbrev s_NoTerm_init : Stmt := (cBody (top 5)).getD 0 (.Pass ⟨0, 0, 0, 0⟩)
abbrev s_NoEquation_init : Stmt := (cBody (top 6)).getD 0 (.Pass ⟨0, 0, 0, 0⟩)
abbrev s_NoNode_init : Stmt := (cBody (top 7)).getD 0 (.Pass ⟨0, 0, 0, 0⟩)
abbrev s_NoProgram_init : Stmt := (cBody (top 8)).getD 0 (.Pass ⟨0, 0, 0, 0⟩)
abbrev s_NoText_init : Stmt := (cBody (top 9)).getD 0 (.Pass ⟨0, 0, 0, 0⟩)
abbrev s_Twice_init : Stmt := (cBody (top 10)).getD 0 (.Pass ⟨0, 0, 0, 0⟩)
abbrev s_Unknown_init : Stmt := (cBody (top 11)).getD 0 (.Pass ⟨0, 0, 0, 0⟩)
abbrev s_NoOut_init : Stmt := (cBody (top 12)).getD 0 (.Pass ⟨0, 0, 0, 0⟩)
abbrev s_NoRead_init : Stmt := (cBody (top 13)).getD 0 (.Pass ⟨0, 0, 0, 0⟩)
abbrev s_TooMany_init : Stmt := (cBody (top 14)).getD 0 (.Pass ⟨0, 0, 0, 0⟩)
abbrev s_NoFit_init : Stmt := (cBody (top 15)).getD 0 (.Pass ⟨0, 0, 0, 0⟩)
abbrev s_NoClock_init : Stmt := (cBody (top 16)).getD 0 (.Pass ⟨0, 0, 0, 0⟩)
abbrev s_Ring_init : Stmt := (cBody (top 17)).getD 0 (.Pass ⟨0, 0, 0, 0⟩)
abbrev s_Hidden_init : Stmt := (cBody (top 18)).getD 0 (.Pass ⟨0, 0, 0, 0⟩)
abbrev s_NoArgs_init : Stmt := (cBody (top 19)).getD 0 (.Pass ⟨0, 0, 0, 0⟩)
abbrev s_NoCall_init : Stmt := (cBody (top 20)).getD 0 (.Pass ⟨0, 0, 0, 0⟩)
abbrev s_NoInput_init : Stmt := (cBody (top 21)).getD 0 (.Pass ⟨0, 0, 0, 0⟩)
abbrev s_NotYet_init : Stmt := (cBody (top 22)).getD 0 (.Pass ⟨0, 0, 0, 0⟩)
abbrev s_NoBeats_init : Stmt := (cBody (top 23)).getD 0 (.Pass ⟨0, 0, 0, 0⟩)
abbrev s_NoCells_init : Stmt := (cBody (top 24)).getD 0 (.Pass ⟨0, 0, 0, 0⟩)
abbrev s_NoOrder_init : Stmt := (cBody (top 25)).getD 0 (.Pass ⟨0, 0, 0, 0⟩)
abbrev s_NoLine_init : Stmt := (cBody (top 26)).getD 0 (.Pass ⟨0, 0, 0, 0⟩)
abbrev s_cell_at_l : Stmt := top 28
abbrev s_box_l : Stmt := top 29
abbrev s_take_l : Stmt := top 30
abbrev s_thing_l : Stmt := top 31
abbrev s_ones_l : Stmt := top 32
abbrev s_twos_l : Stmt := top 33
abbrev s_kinds_l : Stmt := top 34
abbrev s_same_l : Stmt := top 35
abbrev s_law : Stmt := top 36
/-- where the defs stand -/
structure Adr where
  f_NoNumber_init : Addr
  fd_NoNumber_init : FuncData
  f_NoValue_init : Addr
  fd_NoValue_init : FuncData
  f_NoName_init : Addr
  fd_NoName_init : FuncData
  f_NoTerm_init : Addr
  fd_NoTerm_init : FuncData
  f_NoEquation_init : Addr
  fd_NoEquation_init : FuncData
  f_NoNode_init : Addr
  fd_NoNode_init : FuncData
  f_NoProgram_init : Addr
  fd_NoProgram_init : FuncData
  f_NoText_init : Addr
  fd_NoText_init : FuncData
  f_Twice_init : Addr
  fd_Twice_init : FuncData
  f_Unknown_init : Addr
  fd_Unknown_init : FuncData
  f_NoOut_init : Addr
  fd_NoOut_init : FuncData
  f_NoRead_init : Addr
  fd_NoRead_init : FuncData
  f_TooMany_init : Addr
  fd_TooMany_init : FuncData
  f_NoFit_init : Addr
  fd_NoFit_init : FuncData
  f_NoClock_init : Addr
  fd_NoClock_init : FuncData
  f_Ring_init : Addr
  fd_Ring_init : FuncData
  f_Hidden_init : Addr
  fd_Hidden_init : FuncData
  f_NoArgs_init : Addr
  fd_NoArgs_init : FuncData
  f_NoCall_init : Addr
  fd_NoCall_init : FuncData
  f_NoInput_init : Addr
  fd_NoInput_init : FuncData
  f_NotYet_init : Addr
  fd_NotYet_init : FuncData
  f_NoBeats_init : Addr
  fd_NoBeats_init : FuncData
  f_NoCells_init : Addr
  fd_NoCells_init : FuncData
  f_NoOrder_init : Addr
  fd_NoOrder_init : FuncData
  f_NoLine_init : Addr
  fd_NoLine_init : FuncData
  f_cell_at_l : Addr
  fd_cell_at_l : FuncData
  f_box_l : Addr
  fd_box_l : FuncData
  f_take_l : Addr
  fd_take_l : FuncData
  f_thing_l : Addr
  fd_thing_l : FuncData
  f_ones_l : Addr
  fd_ones_l : FuncData
  f_twos_l : Addr
  fd_twos_l : FuncData
  f_kinds_l : Addr
  fd_kinds_l : FuncData
  f_same_l : Addr
  fd_same_l : FuncData
  f_law : Addr
  fd_law : FuncData
  c_BeatError : Addr
  c_NoNumber : Addr
  c_NoValue : Addr
  c_NoName : Addr
  c_NoTerm : Addr
  c_NoEquation : Addr
  c_NoNode : Addr
  c_NoProgram : Addr
  c_NoText : Addr
  c_Twice : Addr
  c_Unknown : Addr
  c_NoOut : Addr
  c_NoRead : Addr
  c_TooMany : Addr
  c_NoFit : Addr
  c_NoClock : Addr
  c_Ring : Addr
  c_Hidden : Addr
  c_NoArgs : Addr
  c_NoCall : Addr
  c_NoInput : Addr
  c_NotYet : Addr
  c_NoBeats : Addr
  c_NoCells : Addr
  c_NoOrder : Addr
  c_NoLine : Addr
structure Txt (K : PySem.W.Frag) (mg : Str → Option Value) (Z : Adr) : Prop where
  F_NoNumber_init : Fun K "__init__" "NoNumber.__init__" s_NoNumber_init Z.f_NoNumber_init Z.fd_NoNumber_init
  b_NoNumber_init : Binds K Z.fd_NoNumber_init ["self", "found"] []
  F_NoValue_init : Fun K "__init__" "NoValue.__init__" s_NoValue_init Z.f_NoValue_init Z.fd_NoValue_init
  b_NoValue_init : Binds K Z.fd_NoValue_init ["self", "found"] []
  F_NoName_init : Fun K "__init__" "NoName.__init__" s_NoName_init Z.f_NoName_init Z.fd_NoName_init
  b_NoName_init : Binds K Z.fd_NoName_init ["self", "found"] []
  F_NoTerm_init : Fun K "__init__" "NoTerm.__init__" s_NoTerm_init Z.f_NoTerm_init Z.fd_NoTerm_init
  b_NoTerm_init : Binds K Z.fd_NoTerm_init ["self", "found"] []
  F_NoEquation_init : Fun K "__init__" "NoEquation.__init__" s_NoEquation_init Z.f_NoEquation_init Z.fd_NoEquation_init
  b_NoEquation_init : Binds K Z.fd_NoEquation_init ["self", "found"] []
  F_NoNode_init : Fun K "__init__" "NoNode.__init__" s_NoNode_init Z.f_NoNode_init Z.fd_NoNode_init
  b_NoNode_init : Binds K Z.fd_NoNode_init ["self", "found"] []
  F_NoProgram_init : Fun K "__init__" "NoProgram.__init__" s_NoProgram_init Z.f_NoProgram_init Z.fd_NoProgram_init
  b_NoProgram_init : Binds K Z.fd_NoProgram_init ["self", "found"] []
  F_NoText_init : Fun K "__init__" "NoText.__init__" s_NoText_init Z.f_NoText_init Z.fd_NoText_init
  b_NoText_init : Binds K Z.fd_NoText_init ["self", "at"] []
  F_Twice_init : Fun K "__init__" "Twice.__init__" s_Twice_init Z.f_Twice_init Z.fd_Twice_init
  b_Twice_init : Binds K Z.fd_Twice_init ["self", "name"] []
  F_Unknown_init : Fun K "__init__" "Unknown.__init__" s_Unknown_init Z.f_Unknown_init Z.fd_Unknown_init
  b_Unknown_init : Binds K Z.fd_Unknown_init ["self", "name"] []
  F_NoOut_init : Fun K "__init__" "NoOut.__init__" s_NoOut_init Z.f_NoOut_init Z.fd_NoOut_init
  b_NoOut_init : Binds K Z.fd_NoOut_init ["self", "name"] []
  F_NoRead_init : Fun K "__init__" "NoRead.__init__" s_NoRead_init Z.f_NoRead_init Z.fd_NoRead_init
  b_NoRead_init : Binds K Z.fd_NoRead_init ["self", "name"] []
  F_TooMany_init : Fun K "__init__" "TooMany.__init__" s_TooMany_init Z.f_TooMany_init Z.fd_TooMany_init
  b_TooMany_init : Binds K Z.fd_TooMany_init ["self", "many"] []
  F_NoFit_init : Fun K "__init__" "NoFit.__init__" s_NoFit_init Z.f_NoFit_init Z.fd_NoFit_init
  b_NoFit_init : Binds K Z.fd_NoFit_init ["self", "paper"] []
  F_NoClock_init : Fun K "__init__" "NoClock.__init__" s_NoClock_init Z.f_NoClock_init Z.fd_NoClock_init
  b_NoClock_init : Binds K Z.fd_NoClock_init ["self", "name"] []
  F_Ring_init : Fun K "__init__" "Ring.__init__" s_Ring_init Z.f_Ring_init Z.fd_Ring_init
  b_Ring_init : Binds K Z.fd_Ring_init ["self", "paper"] []
  F_Hidden_init : Fun K "__init__" "Hidden.__init__" s_Hidden_init Z.f_Hidden_init Z.fd_Hidden_init
  b_Hidden_init : Binds K Z.fd_Hidden_init ["self", "name", "other"] []
  F_NoArgs_init : Fun K "__init__" "NoArgs.__init__" s_NoArgs_init Z.f_NoArgs_init Z.fd_NoArgs_init
  b_NoArgs_init : Binds K Z.fd_NoArgs_init ["self", "name", "many"] []
  F_NoCall_init : Fun K "__init__" "NoCall.__init__" s_NoCall_init Z.f_NoCall_init Z.fd_NoCall_init
  b_NoCall_init : Binds K Z.fd_NoCall_init ["self", "name"] []
  F_NoInput_init : Fun K "__init__" "NoInput.__init__" s_NoInput_init Z.f_NoInput_init Z.fd_NoInput_init
  b_NoInput_init : Binds K Z.fd_NoInput_init ["self", "name", "beat"] []
  F_NotYet_init : Fun K "__init__" "NotYet.__init__" s_NotYet_init Z.f_NotYet_init Z.fd_NotYet_init
  b_NotYet_init : Binds K Z.fd_NotYet_init ["self", "name", "other"] []
  F_NoBeats_init : Fun K "__init__" "NoBeats.__init__" s_NoBeats_init Z.f_NoBeats_init Z.fd_NoBeats_init
  b_NoBeats_init : Binds K Z.fd_NoBeats_init ["self", "found"] []
  F_NoCells_init : Fun K "__init__" "NoCells.__init__" s_NoCells_init Z.f_NoCells_init Z.fd_NoCells_init
  b_NoCells_init : Binds K Z.fd_NoCells_init ["self", "found"] []
  F_NoOrder_init : Fun K "__init__" "NoOrder.__init__" s_NoOrder_init Z.f_NoOrder_init Z.fd_NoOrder_init
  b_NoOrder_init : Binds K Z.fd_NoOrder_init ["self", "found"] []
  F_NoLine_init : Fun K "__init__" "NoLine.__init__" s_NoLine_init Z.f_NoLine_init Z.fd_NoLine_init
  b_NoLine_init : Binds K Z.fd_NoLine_init ["self", "line"] []
  F_cell_at_l : Fun K "_law_cell_at" "_law_cell_at" s_cell_at_l Z.f_cell_at_l Z.fd_cell_at_l
  b_cell_at_l : Binds K Z.fd_cell_at_l ["_law_script", "_law_k"] []
  g_cell_at_l : mg "_law_cell_at" = some (.ref Z.f_cell_at_l)
  F_box_l : Fun K "_law_box" "_law_box" s_box_l Z.f_box_l Z.fd_box_l
  b_box_l : Binds K Z.fd_box_l ["_law_cell"] []
  g_box_l : mg "_law_box" = some (.ref Z.f_box_l)
  F_take_l : Fun K "_law_take" "_law_take" s_take_l Z.f_take_l Z.fd_take_l
  b_take_l : Binds K Z.fd_take_l ["_law_box_here", "_law_many"] []
  g_take_l : mg "_law_take" = some (.ref Z.f_take_l)
  F_thing_l : Fun K "_law_thing" "_law_thing" s_thing_l Z.f_thing_l Z.fd_thing_l
  b_thing_l : Binds K Z.fd_thing_l ["_law_box_here"] []
  g_thing_l : mg "_law_thing" = some (.ref Z.f_thing_l)
  F_ones_l : Fun K "_law_ones" "_law_ones" s_ones_l Z.f_ones_l Z.fd_ones_l
  b_ones_l : Binds K Z.fd_ones_l ["_law_one"] []
  g_ones_l : mg "_law_ones" = some (.ref Z.f_ones_l)
  F_twos_l : Fun K "_law_twos" "_law_twos" s_twos_l Z.f_twos_l Z.fd_twos_l
  b_twos_l : Binds K Z.fd_twos_l ["_law_one", "_law_other"] []
  g_twos_l : mg "_law_twos" = some (.ref Z.f_twos_l)
  F_kinds_l : Fun K "_law_kinds" "_law_kinds" s_kinds_l Z.f_kinds_l Z.fd_kinds_l
  b_kinds_l : Binds K Z.fd_kinds_l ["_law_e"] []
  g_kinds_l : mg "_law_kinds" = some (.ref Z.f_kinds_l)
  F_same_l : Fun K "_law_same" "_law_same" s_same_l Z.f_same_l Z.fd_same_l
  b_same_l : Binds K Z.fd_same_l ["_law_found", "_law_due"] []
  g_same_l : mg "_law_same" = some (.ref Z.f_same_l)
  F_law : Fun K "law" "law" s_law Z.f_law Z.fd_law
  b_law : Binds K Z.fd_law ["_law_script"] []
  g_law : mg "law" = some (.ref Z.f_law)
  m_BeatError : mg "BeatError" = some (.ref Z.c_BeatError)
  q_BeatError : baseB K Z.c_BeatError = true
  e_BeatError : PySem.W.excIn K Z.c_BeatError [.type "ValueError", .type "Exception", .type "BaseException", .type "object"] "ValueError.__new__" = true
  k_BeatError : PySem.W.keepIn K (.ref Z.c_BeatError) = true
  w_BeatError : icB K Z.c_BeatError = true
  m_NoNumber : mg "NoNumber" = some (.ref Z.c_NoNumber)
  x_NoNumber : exB K Z.c_NoNumber ["found"] = true
  i_NoNumber : PySem.W.findIn K (.ref Z.c_NoNumber) "__init__" = some (some (.ref Z.f_NoNumber_init))
  y_NoNumber : PySem.W.typeIn K (.ref Z.f_NoNumber_init) = some (.type "function")
  m_NoValue : mg "NoValue" = some (.ref Z.c_NoValue)
  x_NoValue : exB K Z.c_NoValue ["found"] = true
  i_NoValue : PySem.W.findIn K (.ref Z.c_NoValue) "__init__" = some (some (.ref Z.f_NoValue_init))
  y_NoValue : PySem.W.typeIn K (.ref Z.f_NoValue_init) = some (.type "function")
  m_NoName : mg "NoName" = some (.ref Z.c_NoName)
  x_NoName : exB K Z.c_NoName ["found"] = true
  i_NoName : PySem.W.findIn K (.ref Z.c_NoName) "__init__" = some (some (.ref Z.f_NoName_init))
  y_NoName : PySem.W.typeIn K (.ref Z.f_NoName_init) = some (.type "function")
  m_NoTerm : mg "NoTerm" = some (.ref Z.c_NoTerm)
  x_NoTerm : exB K Z.c_NoTerm ["found"] = true
  i_NoTerm : PySem.W.findIn K (.ref Z.c_NoTerm) "__init__" = some (some (.ref Z.f_NoTerm_init))
  y_NoTerm : PySem.W.typeIn K (.ref Z.f_NoTerm_init) = some (.type "function")
  m_NoEquation : mg "NoEquation" = some (.ref Z.c_NoEquation)
  x_NoEquation : exB K Z.c_NoEquation ["found"] = true
  i_NoEquation : PySem.W.findIn K (.ref Z.c_NoEquation) "__init__" = some (some (.ref Z.f_NoEquation_init))
  y_NoEquation : PySem.W.typeIn K (.ref Z.f_NoEquation_init) = some (.type "function")
  m_NoNode : mg "NoNode" = some (.ref Z.c_NoNode)
  x_NoNode : exB K Z.c_NoNode ["found"] = true
  i_NoNode : PySem.W.findIn K (.ref Z.c_NoNode) "__init__" = some (some (.ref Z.f_NoNode_init))
  y_NoNode : PySem.W.typeIn K (.ref Z.f_NoNode_init) = some (.type "function")
  m_NoProgram : mg "NoProgram" = some (.ref Z.c_NoProgram)
  x_NoProgram : exB K Z.c_NoProgram ["found"] = true
  i_NoProgram : PySem.W.findIn K (.ref Z.c_NoProgram) "__init__" = some (some (.ref Z.f_NoProgram_init))
  y_NoProgram : PySem.W.typeIn K (.ref Z.f_NoProgram_init) = some (.type "function")
  m_NoText : mg "NoText" = some (.ref Z.c_NoText)
  x_NoText : exB K Z.c_NoText ["at"] = true
  i_NoText : PySem.W.findIn K (.ref Z.c_NoText) "__init__" = some (some (.ref Z.f_NoText_init))
  y_NoText : PySem.W.typeIn K (.ref Z.f_NoText_init) = some (.type "function")
  m_Twice : mg "Twice" = some (.ref Z.c_Twice)
  x_Twice : exB K Z.c_Twice ["name"] = true
  i_Twice : PySem.W.findIn K (.ref Z.c_Twice) "__init__" = some (some (.ref Z.f_Twice_init))
  y_Twice : PySem.W.typeIn K (.ref Z.f_Twice_init) = some (.type "function")
  m_Unknown : mg "Unknown" = some (.ref Z.c_Unknown)
  x_Unknown : exB K Z.c_Unknown ["name"] = true
  i_Unknown : PySem.W.findIn K (.ref Z.c_Unknown) "__init__" = some (some (.ref Z.f_Unknown_init))
  y_Unknown : PySem.W.typeIn K (.ref Z.f_Unknown_init) = some (.type "function")
  m_NoOut : mg "NoOut" = some (.ref Z.c_NoOut)
  x_NoOut : exB K Z.c_NoOut ["name"] = true
  i_NoOut : PySem.W.findIn K (.ref Z.c_NoOut) "__init__" = some (some (.ref Z.f_NoOut_init))
  y_NoOut : PySem.W.typeIn K (.ref Z.f_NoOut_init) = some (.type "function")
  m_NoRead : mg "NoRead" = some (.ref Z.c_NoRead)
  x_NoRead : exB K Z.c_NoRead ["name"] = true
  i_NoRead : PySem.W.findIn K (.ref Z.c_NoRead) "__init__" = some (some (.ref Z.f_NoRead_init))
  y_NoRead : PySem.W.typeIn K (.ref Z.f_NoRead_init) = some (.type "function")
  m_TooMany : mg "TooMany" = some (.ref Z.c_TooMany)
  x_TooMany : exB K Z.c_TooMany ["many"] = true
  i_TooMany : PySem.W.findIn K (.ref Z.c_TooMany) "__init__" = some (some (.ref Z.f_TooMany_init))
  y_TooMany : PySem.W.typeIn K (.ref Z.f_TooMany_init) = some (.type "function")
  m_NoFit : mg "NoFit" = some (.ref Z.c_NoFit)
  x_NoFit : exB K Z.c_NoFit ["paper"] = true
  i_NoFit : PySem.W.findIn K (.ref Z.c_NoFit) "__init__" = some (some (.ref Z.f_NoFit_init))
  y_NoFit : PySem.W.typeIn K (.ref Z.f_NoFit_init) = some (.type "function")
  m_NoClock : mg "NoClock" = some (.ref Z.c_NoClock)
  x_NoClock : exB K Z.c_NoClock ["name"] = true
  i_NoClock : PySem.W.findIn K (.ref Z.c_NoClock) "__init__" = some (some (.ref Z.f_NoClock_init))
  y_NoClock : PySem.W.typeIn K (.ref Z.f_NoClock_init) = some (.type "function")
  m_Ring : mg "Ring" = some (.ref Z.c_Ring)
  x_Ring : exB K Z.c_Ring ["paper"] = true
  i_Ring : PySem.W.findIn K (.ref Z.c_Ring) "__init__" = some (some (.ref Z.f_Ring_init))
  y_Ring : PySem.W.typeIn K (.ref Z.f_Ring_init) = some (.type "function")
  m_Hidden : mg "Hidden" = some (.ref Z.c_Hidden)
  x_Hidden : exB K Z.c_Hidden ["name", "other"] = true
  i_Hidden : PySem.W.findIn K (.ref Z.c_Hidden) "__init__" = some (some (.ref Z.f_Hidden_init))
  y_Hidden : PySem.W.typeIn K (.ref Z.f_Hidden_init) = some (.type "function")
  m_NoArgs : mg "NoArgs" = some (.ref Z.c_NoArgs)
  x_NoArgs : exB K Z.c_NoArgs ["name", "many"] = true
  i_NoArgs : PySem.W.findIn K (.ref Z.c_NoArgs) "__init__" = some (some (.ref Z.f_NoArgs_init))
  y_NoArgs : PySem.W.typeIn K (.ref Z.f_NoArgs_init) = some (.type "function")
  m_NoCall : mg "NoCall" = some (.ref Z.c_NoCall)
  x_NoCall : exB K Z.c_NoCall ["name"] = true
  i_NoCall : PySem.W.findIn K (.ref Z.c_NoCall) "__init__" = some (some (.ref Z.f_NoCall_init))
  y_NoCall : PySem.W.typeIn K (.ref Z.f_NoCall_init) = some (.type "function")
  m_NoInput : mg "NoInput" = some (.ref Z.c_NoInput)
  x_NoInput : exB K Z.c_NoInput ["name", "beat"] = true
  i_NoInput : PySem.W.findIn K (.ref Z.c_NoInput) "__init__" = some (some (.ref Z.f_NoInput_init))
  y_NoInput : PySem.W.typeIn K (.ref Z.f_NoInput_init) = some (.type "function")
  m_NotYet : mg "NotYet" = some (.ref Z.c_NotYet)
  x_NotYet : exB K Z.c_NotYet ["name", "other"] = true
  i_NotYet : PySem.W.findIn K (.ref Z.c_NotYet) "__init__" = some (some (.ref Z.f_NotYet_init))
  y_NotYet : PySem.W.typeIn K (.ref Z.f_NotYet_init) = some (.type "function")
  m_NoBeats : mg "NoBeats" = some (.ref Z.c_NoBeats)
  x_NoBeats : exB K Z.c_NoBeats ["found"] = true
  i_NoBeats : PySem.W.findIn K (.ref Z.c_NoBeats) "__init__" = some (some (.ref Z.f_NoBeats_init))
  y_NoBeats : PySem.W.typeIn K (.ref Z.f_NoBeats_init) = some (.type "function")
  m_NoCells : mg "NoCells" = some (.ref Z.c_NoCells)
  x_NoCells : exB K Z.c_NoCells ["found"] = true
  i_NoCells : PySem.W.findIn K (.ref Z.c_NoCells) "__init__" = some (some (.ref Z.f_NoCells_init))
  y_NoCells : PySem.W.typeIn K (.ref Z.f_NoCells_init) = some (.type "function")
  m_NoOrder : mg "NoOrder" = some (.ref Z.c_NoOrder)
  x_NoOrder : exB K Z.c_NoOrder ["found"] = true
  i_NoOrder : PySem.W.findIn K (.ref Z.c_NoOrder) "__init__" = some (some (.ref Z.f_NoOrder_init))
  y_NoOrder : PySem.W.typeIn K (.ref Z.f_NoOrder_init) = some (.type "function")
  m_NoLine : mg "NoLine" = some (.ref Z.c_NoLine)
  x_NoLine : exB K Z.c_NoLine ["line"] = true
  i_NoLine : PySem.W.findIn K (.ref Z.c_NoLine) "__init__" = some (some (.ref Z.f_NoLine_init))
  y_NoLine : PySem.W.typeIn K (.ref Z.f_NoLine_init) = some (.type "function")
  fact_fam : famB K Z.c_BeatError [Z.c_NoNumber, Z.c_NoValue, Z.c_NoName, Z.c_NoTerm, Z.c_NoEquation, Z.c_NoNode, Z.c_NoProgram, Z.c_NoBeats, Z.c_NoCells, Z.c_NoOrder, Z.c_Twice, Z.c_Unknown, Z.c_NoOut, Z.c_NoRead, Z.c_NoClock, Z.c_NoCall, Z.c_NoText, Z.c_TooMany, Z.c_NoFit, Z.c_Ring, Z.c_NoLine, Z.c_Hidden, Z.c_NoArgs, Z.c_NoInput, Z.c_NotYet] = true
  n_ValueError : mg "ValueError" = none
  n_all : mg "all" = none
  n_bool : mg "bool" = none
  n_dict : mg "dict" = none
  n_enumerate : mg "enumerate" = none
  n_int : mg "int" = none
  n_isinstance : mg "isinstance" = none
  n_len : mg "len" = none
  n_list : mg "list" = none
  n_max : mg "max" = none
  n_min : mg "min" = none
  n_range : mg "range" = none
  n_zip : mg "zip" = none
abbrev N_NoNumber_init : List Str := ["self", "found"]
theorem sc_NoNumber_init : FnScope N_NoNumber_init ["self", "found"] (defScope s_NoNumber_init) := ⟨rfl, rfl, rfl, by decide +kernel, rfl, by decide +kernel, by decide +kernel⟩
abbrev N_NoValue_init : List Str := ["self", "found"]
theorem sc_NoValue_init : FnScope N_NoValue_init ["self", "found"] (defScope s_NoValue_init) := ⟨rfl, rfl, rfl, by decide +kernel, rfl, by decide +kernel, by decide +kernel⟩
abbrev N_NoName_init : List Str := ["self", "found"]
theorem sc_NoName_init : FnScope N_NoName_init ["self", "found"] (defScope s_NoName_init) := ⟨rfl, rfl, rfl, by decide +kernel, rfl, by decide +kernel, by decide +kernel⟩
abbrev N_NoTerm_init : List Str := ["self", "found"]
theorem sc_NoTerm_init : FnScope N_NoTerm_init ["self", "found"] (defScope s_NoTerm_init) := ⟨rfl, rfl, rfl, by decide +kernel, rfl, by decide +kernel, by decide +kernel⟩
abbrev N_NoEquation_init : List Str := ["self", "found"]
theorem sc_NoEquation_init : FnScope N_NoEquation_init ["self", "found"] (defScope s_NoEquation_init) := ⟨rfl, rfl, rfl, by decide +kernel, rfl, by decide +kernel, by decide +kernel⟩
abbrev N_NoNode_init : List Str := ["self", "found"]
theorem sc_NoNode_init : FnScope N_NoNode_init ["self", "found"] (defScope s_NoNode_init) := ⟨rfl, rfl, rfl, by decide +kernel, rfl, by decide +kernel, by decide +kernel⟩
abbrev N_NoProgram_init : List Str := ["self", "found"]
theorem sc_NoProgram_init : FnScope N_NoProgram_init ["self", "found"] (defScope s_NoProgram_init) := ⟨rfl, rfl, rfl, by decide +kernel, rfl, by decide +kernel, by decide +kernel⟩
abbrev N_NoText_init : List Str := ["self", "at"]
theorem sc_NoText_init : FnScope N_NoText_init ["self", "at"] (defScope s_NoText_init) := ⟨rfl, rfl, rfl, by decide +kernel, rfl, by decide +kernel, by decide +kernel⟩
abbrev N_Twice_init : List Str := ["self", "name"]
theorem sc_Twice_init : FnScope N_Twice_init ["self", "name"] (defScope s_Twice_init) := ⟨rfl, rfl, rfl, by decide +kernel, rfl, by decide +kernel, by decide +kernel⟩
abbrev N_Unknown_init : List Str := ["self", "name"]
theorem sc_Unknown_init : FnScope N_Unknown_init ["self", "name"] (defScope s_Unknown_init) := ⟨rfl, rfl, rfl, by decide +kernel, rfl, by decide +kernel, by decide +kernel⟩
abbrev N_NoOut_init : List Str := ["self", "name"]
theorem sc_NoOut_init : FnScope N_NoOut_init ["self", "name"] (defScope s_NoOut_init) := ⟨rfl, rfl, rfl, by decide +kernel, rfl, by decide +kernel, by decide +kernel⟩
abbrev N_NoRead_init : List Str := ["self", "name"]
theorem sc_NoRead_init : FnScope N_NoRead_init ["self", "name"] (defScope s_NoRead_init) := ⟨rfl, rfl, rfl, by decide +kernel, rfl, by decide +kernel, by decide +kernel⟩
abbrev N_TooMany_init : List Str := ["self", "many"]
theorem sc_TooMany_init : FnScope N_TooMany_init ["self", "many"] (defScope s_TooMany_init) := ⟨rfl, rfl, rfl, by decide +kernel, rfl, by decide +kernel, by decide +kernel⟩
abbrev N_NoFit_init : List Str := ["self", "paper"]
theorem sc_NoFit_init : FnScope N_NoFit_init ["self", "paper"] (defScope s_NoFit_init) := ⟨rfl, rfl, rfl, by decide +kernel, rfl, by decide +kernel, by decide +kernel⟩
abbrev N_NoClock_init : List Str := ["self", "name"]
theorem sc_NoClock_init : FnScope N_NoClock_init ["self", "name"] (defScope s_NoClock_init) := ⟨rfl, rfl, rfl, by decide +kernel, rfl, by decide +kernel, by decide +kernel⟩
abbrev N_Ring_init : List Str := ["self", "paper"]
theorem sc_Ring_init : FnScope N_Ring_init ["self", "paper"] (defScope s_Ring_init) := ⟨rfl, rfl, rfl, by decide +kernel, rfl, by decide +kernel, by decide +kernel⟩
abbrev N_Hidden_init : List Str := ["self", "name", "other"]
theorem sc_Hidden_init : FnScope N_Hidden_init ["self", "name", "other"] (defScope s_Hidden_init) := ⟨rfl, rfl, rfl, by decide +kernel, rfl, by decide +kernel, by decide +kernel⟩
abbrev N_NoArgs_init : List Str := ["self", "name", "many"]
theorem sc_NoArgs_init : FnScope N_NoArgs_init ["self", "name", "many"] (defScope s_NoArgs_init) := ⟨rfl, rfl, rfl, by decide +kernel, rfl, by decide +kernel, by decide +kernel⟩
abbrev N_NoCall_init : List Str := ["self", "name"]
theorem sc_NoCall_init : FnScope N_NoCall_init ["self", "name"] (defScope s_NoCall_init) := ⟨rfl, rfl, rfl, by decide +kernel, rfl, by decide +kernel, by decide +kernel⟩
abbrev N_NoInput_init : List Str := ["self", "name", "beat"]
theorem sc_NoInput_init : FnScope N_NoInput_init ["self", "name", "beat"] (defScope s_NoInput_init) := ⟨rfl, rfl, rfl, by decide +kernel, rfl, by decide +kernel, by decide +kernel⟩
abbrev N_NotYet_init : List Str := ["self", "name", "other"]
theorem sc_NotYet_init : FnScope N_NotYet_init ["self", "name", "other"] (defScope s_NotYet_init) := ⟨rfl, rfl, rfl, by decide +kernel, rfl, by decide +kernel, by decide +kernel⟩
abbrev N_NoBeats_init : List Str := ["self", "found"]
theorem sc_NoBeats_init : FnScope N_NoBeats_init ["self", "found"] (defScope s_NoBeats_init) := ⟨rfl, rfl, rfl, by decide +kernel, rfl, by decide +kernel, by decide +kernel⟩
abbrev N_NoCells_init : List Str := ["self", "found"]
theorem sc_NoCells_init : FnScope N_NoCells_init ["self", "found"] (defScope s_NoCells_init) := ⟨rfl, rfl, rfl, by decide +kernel, rfl, by decide +kernel, by decide +kernel⟩
abbrev N_NoOrder_init : List Str := ["self", "found"]
theorem sc_NoOrder_init : FnScope N_NoOrder_init ["self", "found"] (defScope s_NoOrder_init) := ⟨rfl, rfl, rfl, by decide +kernel, rfl, by decide +kernel, by decide +kernel⟩
abbrev N_NoLine_init : List Str := ["self", "line"]
theorem sc_NoLine_init : FnScope N_NoLine_init ["self", "line"] (defScope s_NoLine_init) := ⟨rfl, rfl, rfl, by decide +kernel, rfl, by decide +kernel, by decide +kernel⟩
abbrev N_cell_at_l : List Str := ["_law_script", "_law_k"]
theorem sc_cell_at_l : FnScope N_cell_at_l ["_law_script", "_law_k"] (defScope s_cell_at_l) := ⟨rfl, rfl, rfl, by decide +kernel, rfl, by decide +kernel, by decide +kernel⟩
abbrev N_box_l : List Str := ["_law_cell"]
theorem sc_box_l : FnScope N_box_l ["_law_cell"] (defScope s_box_l) := ⟨rfl, rfl, rfl, by decide +kernel, rfl, by decide +kernel, by decide +kernel⟩
abbrev N_take_l : List Str := ["_law_box_here", "_law_many", "_law_digit", "_law_number", "_law_high", "_law_low"]
theorem sc_take_l : FnScope N_take_l ["_law_box_here", "_law_many"] (defScope s_take_l) := ⟨rfl, rfl, rfl, by decide +kernel, rfl, by decide +kernel, by decide +kernel⟩
abbrev N_thing_l : List Str := ["_law_box_here", "_law_number"]
theorem sc_thing_l : FnScope N_thing_l ["_law_box_here"] (defScope s_thing_l) := ⟨rfl, rfl, rfl, by decide +kernel, rfl, by decide +kernel, by decide +kernel⟩
abbrev N_ones_l : List Str := ["_law_one", "_law_found", "_law_pairs", "_law_e"]
theorem sc_ones_l : FnScope N_ones_l ["_law_one"] (defScope s_ones_l) := ⟨rfl, rfl, rfl, by decide +kernel, rfl, by decide +kernel, by decide +kernel⟩
abbrev N_twos_l : List Str := ["_law_one", "_law_other", "_law_pairs", "_law_e"]
theorem sc_twos_l : FnScope N_twos_l ["_law_one", "_law_other"] (defScope s_twos_l) := ⟨rfl, rfl, rfl, by decide +kernel, rfl, by decide +kernel, by decide +kernel⟩
abbrev N_kinds_l : List Str := ["_law_e", "_law_kinds_here"]
theorem sc_kinds_l : FnScope N_kinds_l ["_law_e"] (defScope s_kinds_l) := ⟨rfl, rfl, rfl, by decide +kernel, rfl, by decide +kernel, by decide +kernel⟩
abbrev N_same_l : List Str := ["_law_found", "_law_due"]
theorem sc_same_l : FnScope N_same_l ["_law_found", "_law_due"] (defScope s_same_l) := ⟨rfl, rfl, rfl, by decide +kernel, rfl, by decide +kernel, by decide +kernel⟩
abbrev N_law : List Str := ["_law_script", "_law_plain", "_law_k", "_law_box_here", "_law_one", "_law_some", "_law_at", "_law_e", "_law_found", "_law_due", "_law_j", "_law_thing_here", "_law_other"]
theorem sc_law : FnScope N_law ["_law_script"] (defScope s_law) := ⟨rfl, rfl, rfl, by decide +kernel, rfl, by decide +kernel, by decide +kernel⟩
section
variable {P : Program} {w : World} {K : PySem.W.Frag} {mg : Str → Option Value} {base : Heap} {Z : Adr}
theorem ok_NoNumber_init (T : Txt K mg Z) : FnOk P w K mg base CX0 1 Z.f_NoNumber_init Z.fd_NoNumber_init ["self", "found"] (sp_err1 Z.c_NoNumber "found") := by
  refine T.F_NoNumber_init.ok sc_NoNumber_init (fun vs H Q E h => ?_) (fun cdv AA outer s H vs Q E hr h => ?_)
  · obtain ⟨a, v0, rfl, _⟩ := h
    rfl
  · obtain ⟨a, v0, rfl, ha, k⟩ := h
    have TX := exB_ok T.x_NoNumber
    refine ⟨_, (pss_cons (ps_expr (pe_binit rfl T.m_BeatError (baseB_ok T.q_BeatError) (pa_cons (pv 0) (pa_cons pe_str pa_nil))))
      (pss_one (ps_ost (pv 0) (pv 1)))), ?_⟩
    exact err1_run TX.ox (TX.no _ (by decide +kernel)) ha k
theorem ok_NoValue_init (T : Txt K mg Z) : FnOk P w K mg base CX0 1 Z.f_NoValue_init Z.fd_NoValue_init ["self", "found"] (sp_err1 Z.c_NoValue "found") := by
  refine T.F_NoValue_init.ok sc_NoValue_init (fun vs H Q E h => ?_) (fun cdv AA outer s H vs Q E hr h => ?_)
  · obtain ⟨a, v0, rfl, _⟩ := h
    rfl
  · obtain ⟨a, v0, rfl, ha, k⟩ := h
    have TX := exB_ok T.x_NoValue
    refine ⟨_, (pss_cons (ps_expr (pe_binit rfl T.m_BeatError (baseB_ok T.q_BeatError) (pa_cons (pv 0) (pa_cons pe_str pa_nil))))
      (pss_one (ps_ost (pv 0) (pv 1)))), ?_⟩
    exact err1_run TX.ox (TX.no _ (by decide +kernel)) ha k
theorem ok_NoName_init (T : Txt K mg Z) : FnOk P w K mg base CX0 1 Z.f_NoName_init Z.fd_NoName_init ["self", "found"] (sp_err1 Z.c_NoName "found") := by
  refine T.F_NoName_init.ok sc_NoName_init (fun vs H Q E h => ?_) (fun cdv AA outer s H vs Q E hr h => ?_)
  · obtain ⟨a, v0, rfl, _⟩ := h
    rfl
  · obtain ⟨a, v0, rfl, ha, k⟩ := h
    have TX := exB_ok T.x_NoName
    refine ⟨_, (pss_cons (ps_expr (pe_binit rfl T.m_BeatError (baseB_ok T.q_BeatError) (pa_cons (pv 0) (pa_cons pe_str pa_nil))))
      (pss_one (ps_ost (pv 0) (pv 1)))), ?_⟩
    exact err1_run TX.ox (TX.no _ (by decide +kernel)) ha k
theorem ok_NoTerm_init (T : Txt K mg Z) : FnOk P w K mg base CX0 1 Z.f_NoTerm_init Z.fd_NoTerm_init ["self", "found"] (sp_err1 Z.c_NoTerm "found") := by
  refine T.F_NoTerm_init.ok sc_NoTerm_init (fun vs H Q E h => ?_) (fun cdv AA outer s H vs Q E hr h => ?_)
  · obtain ⟨a, v0, rfl, _⟩ := h
    rfl
  · obtain ⟨a, v0, rfl, ha, k⟩ := h
    have TX := exB_ok T.x_NoTerm
    refine ⟨_, (pss_cons (ps_expr (pe_binit rfl T.m_BeatError (baseB_ok T.q_BeatError) (pa_cons (pv 0) (pa_cons pe_str pa_nil))))
      (pss_one (ps_ost (pv 0) (pv 1)))), ?_⟩
    exact err1_run TX.ox (TX.no _ (by decide +kernel)) ha k
theorem ok_NoEquation_init (T : Txt K mg Z) : FnOk P w K mg base CX0 1 Z.f_NoEquation_init Z.fd_NoEquation_init ["self", "found"] (sp_err1 Z.c_NoEquation "found") := by
  refine T.F_NoEquation_init.ok sc_NoEquation_init (fun vs H Q E h => ?_) (fun cdv AA outer s H vs Q E hr h => ?_)
  · obtain ⟨a, v0, rfl, _⟩ := h
    rfl
  · obtain ⟨a, v0, rfl, ha, k⟩ := h
    have TX := exB_ok T.x_NoEquation
    refine ⟨_, (pss_cons (ps_expr (pe_binit rfl T.m_BeatError (baseB_ok T.q_BeatError) (pa_cons (pv 0) (pa_cons pe_str pa_nil))))
      (pss_one (ps_ost (pv 0) (pv 1)))), ?_⟩
    exact err1_run TX.ox (TX.no _ (by decide +kernel)) ha k
theorem ok_NoNode_init (T : Txt K mg Z) : FnOk P w K mg base CX0 1 Z.f_NoNode_init Z.fd_NoNode_init ["self", "found"] (sp_err1 Z.c_NoNode "found") := by
  refine T.F_NoNode_init.ok sc_NoNode_init (fun vs H Q E h => ?_) (fun cdv AA outer s H vs Q E hr h => ?_)
  · obtain ⟨a, v0, rfl, _⟩ := h
    rfl
  · obtain ⟨a, v0, rfl, ha, k⟩ := h
    have TX := exB_ok T.x_NoNode
    refine ⟨_, (pss_cons (ps_expr (pe_binit rfl T.m_BeatError (baseB_ok T.q_BeatError) (pa_cons (pv 0) (pa_cons pe_str pa_nil))))
      (pss_one (ps_ost (pv 0) (pv 1)))), ?_⟩
    exact err1_run TX.ox (TX.no _ (by decide +kernel)) ha k
theorem ok_NoProgram_init (T : Txt K mg Z) : FnOk P w K mg base CX0 1 Z.f_NoProgram_init Z.fd_NoProgram_init ["self", "found"] (sp_err1 Z.c_NoProgram "found") := by
  refine T.F_NoProgram_init.ok sc_NoProgram_init (fun vs H Q E h => ?_) (fun cdv AA outer s H vs Q E hr h => ?_)
  · obtain ⟨a, v0, rfl, _⟩ := h
    rfl
  · obtain ⟨a, v0, rfl, ha, k⟩ := h
    have TX := exB_ok T.x_NoProgram
    refine ⟨_, (pss_cons (ps_expr (pe_binit rfl T.m_BeatError (baseB_ok T.q_BeatError) (pa_cons (pv 0) (pa_cons pe_str pa_nil))))
      (pss_one (ps_ost (pv 0) (pv 1)))), ?_⟩
    exact err1_run TX.ox (TX.no _ (by decide +kernel)) ha k
theorem ok_NoText_init (T : Txt K mg Z) : FnOk P w K mg base CX0 1 Z.f_NoText_init Z.fd_NoText_init ["self", "at"] (sp_err1 Z.c_NoText "at") := by
  refine T.F_NoText_init.ok sc_NoText_init (fun vs H Q E h => ?_) (fun cdv AA outer s H vs Q E hr h => ?_)
  · obtain ⟨a, v0, rfl, _⟩ := h
    rfl
  · obtain ⟨a, v0, rfl, ha, k⟩ := h
    have TX := exB_ok T.x_NoText
    refine ⟨_, (pss_cons (ps_expr (pe_binit rfl T.m_BeatError (baseB_ok T.q_BeatError) (pa_cons (pv 0) (pa_cons pe_str pa_nil))))
      (pss_one (ps_ost (pv 0) (pv 1)))), ?_⟩
    exact err1_run TX.ox (TX.no _ (by decide +kernel)) ha k
theorem ok_Twice_init (T : Txt K mg Z) : FnOk P w K mg base CX0 1 Z.f_Twice_init Z.fd_Twice_init ["self", "name"] (sp_err1 Z.c_Twice "name") := by
  refine T.F_Twice_init.ok sc_Twice_init (fun vs H Q E h => ?_) (fun cdv AA outer s H vs Q E hr h => ?_)
  · obtain ⟨a, v0, rfl, _⟩ := h
    rfl
  · obtain ⟨a, v0, rfl, ha, k⟩ := h
    have TX := exB_ok T.x_Twice
    refine ⟨_, (pss_cons (ps_expr (pe_binit rfl T.m_BeatError (baseB_ok T.q_BeatError) (pa_cons (pv 0) (pa_cons pe_str pa_nil))))
      (pss_one (ps_ost (pv 0) (pv 1)))), ?_⟩
    exact err1_run TX.ox (TX.no _ (by decide +kernel)) ha k
theorem ok_Unknown_init (T : Txt K mg Z) : FnOk P w K mg base CX0 1 Z.f_Unknown_init Z.fd_Unknown_init ["self", "name"] (sp_err1 Z.c_Unknown "name") := by
  refine T.F_Unknown_init.ok sc_Unknown_init (fun vs H Q E h => ?_) (fun cdv AA outer s H vs Q E hr h => ?_)
  · obtain ⟨a, v0, rfl, _⟩ := h
    rfl
  · obtain ⟨a, v0, rfl, ha, k⟩ := h
    have TX := exB_ok T.x_Unknown
    refine ⟨_, (pss_cons (ps_expr (pe_binit rfl T.m_BeatError (baseB_ok T.q_BeatError) (pa_cons (pv 0) (pa_cons pe_str pa_nil))))
      (pss_one (ps_ost (pv 0) (pv 1)))), ?_⟩
    exact err1_run TX.ox (TX.no _ (by decide +kernel)) ha k
theorem ok_NoOut_init (T : Txt K mg Z) : FnOk P w K mg base CX0 1 Z.f_NoOut_init Z.fd_NoOut_init ["self", "name"] (sp_err1 Z.c_NoOut "name") := by
  refine T.F_NoOut_init.ok sc_NoOut_init (fun vs H Q E h => ?_) (fun cdv AA outer s H vs Q E hr h => ?_)
  · obtain ⟨a, v0, rfl, _⟩ := h
    rfl
  · obtain ⟨a, v0, rfl, ha, k⟩ := h
    have TX := exB_ok T.x_NoOut
    refine ⟨_, (pss_cons (ps_expr (pe_binit rfl T.m_BeatError (baseB_ok T.q_BeatError) (pa_cons (pv 0) (pa_cons pe_str pa_nil))))
      (pss_one (ps_ost (pv 0) (pv 1)))), ?_⟩
    exact err1_run TX.ox (TX.no _ (by decide +kernel)) ha k
theorem ok_NoRead_init (T : Txt K mg Z) : FnOk P w K mg base CX0 1 Z.f_NoRead_init Z.fd_NoRead_init ["self", "name"] (sp_err1 Z.c_NoRead "name") := by
  refine T.F_NoRead_init.ok sc_NoRead_init (fun vs H Q E h => ?_) (fun cdv AA outer s H vs Q E hr h => ?_)
  · obtain ⟨a, v0, rfl, _⟩ := h
    rfl
  · obtain ⟨a, v0, rfl, ha, k⟩ := h
    have TX := exB_ok T.x_NoRead
    refine ⟨_, (pss_cons (ps_expr (pe_binit rfl T.m_BeatError (baseB_ok T.q_BeatError) (pa_cons (pv 0) (pa_cons pe_str pa_nil))))
      (pss_one (ps_ost (pv 0) (pv 1)))), ?_⟩
    exact err1_run TX.ox (TX.no _ (by decide +kernel)) ha k
theorem ok_TooMany_init (T : Txt K mg Z) : FnOk P w K mg base CX0 1 Z.f_TooMany_init Z.fd_TooMany_init ["self", "many"] (sp_err1 Z.c_TooMany "many") := by
  refine T.F_TooMany_init.ok sc_TooMany_init (fun vs H Q E h => ?_) (fun cdv AA outer s H vs Q E hr h => ?_)
  · obtain ⟨a, v0, rfl, _⟩ := h
    rfl
  · obtain ⟨a, v0, rfl, ha, k⟩ := h
    have TX := exB_ok T.x_TooMany
    refine ⟨_, (pss_cons (ps_expr (pe_binit rfl T.m_BeatError (baseB_ok T.q_BeatError) (pa_cons (pv 0) (pa_cons pe_str pa_nil))))
      (pss_one (ps_ost (pv 0) (pv 1)))), ?_⟩
    exact err1_run TX.ox (TX.no _ (by decide +kernel)) ha k
theorem ok_NoFit_init (T : Txt K mg Z) : FnOk P w K mg base CX0 1 Z.f_NoFit_init Z.fd_NoFit_init ["self", "paper"] (sp_err1 Z.c_NoFit "paper") := by
  refine T.F_NoFit_init.ok sc_NoFit_init (fun vs H Q E h => ?_) (fun cdv AA outer s H vs Q E hr h => ?_)
  · obtain ⟨a, v0, rfl, _⟩ := h
    rfl
  · obtain ⟨a, v0, rfl, ha, k⟩ := h
    have TX := exB_ok T.x_NoFit
    refine ⟨_, (pss_cons (ps_expr (pe_binit rfl T.m_BeatError (baseB_ok T.q_BeatError) (pa_cons (pv 0) (pa_cons pe_str pa_nil))))
      (pss_one (ps_ost (pv 0) (pv 1)))), ?_⟩
    exact err1_run TX.ox (TX.no _ (by decide +kernel)) ha k
theorem ok_NoClock_init (T : Txt K mg Z) : FnOk P w K mg base CX0 1 Z.f_NoClock_init Z.fd_NoClock_init ["self", "name"] (sp_err1 Z.c_NoClock "name") := by
  refine T.F_NoClock_init.ok sc_NoClock_init (fun vs H Q E h => ?_) (fun cdv AA outer s H vs Q E hr h => ?_)
  · obtain ⟨a, v0, rfl, _⟩ := h
    rfl
  · obtain ⟨a, v0, rfl, ha, k⟩ := h
    have TX := exB_ok T.x_NoClock
    refine ⟨_, (pss_cons (ps_expr (pe_binit rfl T.m_BeatError (baseB_ok T.q_BeatError) (pa_cons (pv 0) (pa_cons pe_str pa_nil))))
      (pss_one (ps_ost (pv 0) (pv 1)))), ?_⟩
    exact err1_run TX.ox (TX.no _ (by decide +kernel)) ha k
theorem ok_Ring_init (T : Txt K mg Z) : FnOk P w K mg base CX0 1 Z.f_Ring_init Z.fd_Ring_init ["self", "paper"] (sp_err1 Z.c_Ring "paper") := by
  refine T.F_Ring_init.ok sc_Ring_init (fun vs H Q E h => ?_) (fun cdv AA outer s H vs Q E hr h => ?_)
  · obtain ⟨a, v0, rfl, _⟩ := h
    rfl
  · obtain ⟨a, v0, rfl, ha, k⟩ := h
    have TX := exB_ok T.x_Ring
    refine ⟨_, (pss_cons (ps_expr (pe_binit rfl T.m_BeatError (baseB_ok T.q_BeatError) (pa_cons (pv 0) (pa_cons pe_str pa_nil))))
      (pss_one (ps_ost (pv 0) (pv 1)))), ?_⟩
    exact err1_run TX.ox (TX.no _ (by decide +kernel)) ha k
theorem ok_Hidden_init (T : Txt K mg Z) : FnOk P w K mg base CX0 1 Z.f_Hidden_init Z.fd_Hidden_init ["self", "name", "other"] (sp_err2 Z.c_Hidden "name" "other") := by
  refine T.F_Hidden_init.ok sc_Hidden_init (fun vs H Q E h => ?_) (fun cdv AA outer s H vs Q E hr h => ?_)
  · obtain ⟨a, v0, v1, rfl, _⟩ := h
    rfl
  · obtain ⟨a, v0, v1, rfl, ha, k⟩ := h
    have TX := exB_ok T.x_Hidden
    refine ⟨_, (pss_cons (ps_expr (pe_binit rfl T.m_BeatError (baseB_ok T.q_BeatError) (pa_cons (pv 0) (pa_cons pe_str pa_nil))))
      (pss_cons (ps_ost (pv 0) (pv 1))
      (pss_one (ps_ost (pv 0) (pv 2))))), ?_⟩
    exact err2_run TX.ox (TX.no _ (by decide +kernel)) (TX.no _ (by decide +kernel)) ha k
theorem ok_NoArgs_init (T : Txt K mg Z) : FnOk P w K mg base CX0 1 Z.f_NoArgs_init Z.fd_NoArgs_init ["self", "name", "many"] (sp_err2 Z.c_NoArgs "name" "many") := by
  refine T.F_NoArgs_init.ok sc_NoArgs_init (fun vs H Q E h => ?_) (fun cdv AA outer s H vs Q E hr h => ?_)
  · obtain ⟨a, v0, v1, rfl, _⟩ := h
    rfl
  · obtain ⟨a, v0, v1, rfl, ha, k⟩ := h
    have TX := exB_ok T.x_NoArgs
    refine ⟨_, (pss_cons (ps_expr (pe_binit rfl T.m_BeatError (baseB_ok T.q_BeatError) (pa_cons (pv 0) (pa_cons pe_str pa_nil))))
      (pss_cons (ps_ost (pv 0) (pv 1))
      (pss_one (ps_ost (pv 0) (pv 2))))), ?_⟩
    exact err2_run TX.ox (TX.no _ (by decide +kernel)) (TX.no _ (by decide +kernel)) ha k
theorem ok_NoCall_init (T : Txt K mg Z) : FnOk P w K mg base CX0 1 Z.f_NoCall_init Z.fd_NoCall_init ["self", "name"] (sp_err1 Z.c_NoCall "name") := by
  refine T.F_NoCall_init.ok sc_NoCall_init (fun vs H Q E h => ?_) (fun cdv AA outer s H vs Q E hr h => ?_)
  · obtain ⟨a, v0, rfl, _⟩ := h
    rfl
  · obtain ⟨a, v0, rfl, ha, k⟩ := h
    have TX := exB_ok T.x_NoCall
    refine ⟨_, (pss_cons (ps_expr (pe_binit rfl T.m_BeatError (baseB_ok T.q_BeatError) (pa_cons (pv 0) (pa_cons pe_str pa_nil))))
      (pss_one (ps_ost (pv 0) (pv 1)))), ?_⟩
    exact err1_run TX.ox (TX.no _ (by decide +kernel)) ha k
theorem ok_NoInput_init (T : Txt K mg Z) : FnOk P w K mg base CX0 1 Z.f_NoInput_init Z.fd_NoInput_init ["self", "name", "beat"] (sp_err2 Z.c_NoInput "name" "beat") := by
  refine T.F_NoInput_init.ok sc_NoInput_init (fun vs H Q E h => ?_) (fun cdv AA outer s H vs Q E hr h => ?_)
  · obtain ⟨a, v0, v1, rfl, _⟩ := h
    rfl
  · obtain ⟨a, v0, v1, rfl, ha, k⟩ := h
    have TX := exB_ok T.x_NoInput
    refine ⟨_, (pss_cons (ps_expr (pe_binit rfl T.m_BeatError (baseB_ok T.q_BeatError) (pa_cons (pv 0) (pa_cons pe_str pa_nil))))
      (pss_cons (ps_ost (pv 0) (pv 1))
      (pss_one (ps_ost (pv 0) (pv 2))))), ?_⟩
    exact err2_run TX.ox (TX.no _ (by decide +kernel)) (TX.no _ (by decide +kernel)) ha k
theorem ok_NotYet_init (T : Txt K mg Z) : FnOk P w K mg base CX0 1 Z.f_NotYet_init Z.fd_NotYet_init ["self", "name", "other"] (sp_err2 Z.c_NotYet "name" "other") := by
  refine T.F_NotYet_init.ok sc_NotYet_init (fun vs H Q E h => ?_) (fun cdv AA outer s H vs Q E hr h => ?_)
  · obtain ⟨a, v0, v1, rfl, _⟩ := h
    rfl
  · obtain ⟨a, v0, v1, rfl, ha, k⟩ := h
    have TX := exB_ok T.x_NotYet
    refine ⟨_, (pss_cons (ps_expr (pe_binit rfl T.m_BeatError (baseB_ok T.q_BeatError) (pa_cons (pv 0) (pa_cons pe_str pa_nil))))
      (pss_cons (ps_ost (pv 0) (pv 1))
      (pss_one (ps_ost (pv 0) (pv 2))))), ?_⟩
    exact err2_run TX.ox (TX.no _ (by decide +kernel)) (TX.no _ (by decide +kernel)) ha k
theorem ok_NoBeats_init (T : Txt K mg Z) : FnOk P w K mg base CX0 1 Z.f_NoBeats_init Z.fd_NoBeats_init ["self", "found"] (sp_err1 Z.c_NoBeats "found") := by
  refine T.F_NoBeats_init.ok sc_NoBeats_init (fun vs H Q E h => ?_) (fun cdv AA outer s H vs Q E hr h => ?_)
  · obtain ⟨a, v0, rfl, _⟩ := h
    rfl
  · obtain ⟨a, v0, rfl, ha, k⟩ := h
    have TX := exB_ok T.x_NoBeats
    refine ⟨_, (pss_cons (ps_expr (pe_binit rfl T.m_BeatError (baseB_ok T.q_BeatError) (pa_cons (pv 0) (pa_cons pe_str pa_nil))))
      (pss_one (ps_ost (pv 0) (pv 1)))), ?_⟩
    exact err1_run TX.ox (TX.no _ (by decide +kernel)) ha k
theorem ok_NoCells_init (T : Txt K mg Z) : FnOk P w K mg base CX0 1 Z.f_NoCells_init Z.fd_NoCells_init ["self", "found"] (sp_err1 Z.c_NoCells "found") := by
  refine T.F_NoCells_init.ok sc_NoCells_init (fun vs H Q E h => ?_) (fun cdv AA outer s H vs Q E hr h => ?_)
  · obtain ⟨a, v0, rfl, _⟩ := h
    rfl
  · obtain ⟨a, v0, rfl, ha, k⟩ := h
    have TX := exB_ok T.x_NoCells
    refine ⟨_, (pss_cons (ps_expr (pe_binit rfl T.m_BeatError (baseB_ok T.q_BeatError) (pa_cons (pv 0) (pa_cons pe_str pa_nil))))
      (pss_one (ps_ost (pv 0) (pv 1)))), ?_⟩
    exact err1_run TX.ox (TX.no _ (by decide +kernel)) ha k
theorem ok_NoOrder_init (T : Txt K mg Z) : FnOk P w K mg base CX0 1 Z.f_NoOrder_init Z.fd_NoOrder_init ["self", "found"] (sp_err1 Z.c_NoOrder "found") := by
  refine T.F_NoOrder_init.ok sc_NoOrder_init (fun vs H Q E h => ?_) (fun cdv AA outer s H vs Q E hr h => ?_)
  · obtain ⟨a, v0, rfl, _⟩ := h
    rfl
  · obtain ⟨a, v0, rfl, ha, k⟩ := h
    have TX := exB_ok T.x_NoOrder
    refine ⟨_, (pss_cons (ps_expr (pe_binit rfl T.m_BeatError (baseB_ok T.q_BeatError) (pa_cons (pv 0) (pa_cons pe_str pa_nil))))
      (pss_one (ps_ost (pv 0) (pv 1)))), ?_⟩
    exact err1_run TX.ox (TX.no _ (by decide +kernel)) ha k
theorem ok_NoLine_init (T : Txt K mg Z) : FnOk P w K mg base CX0 1 Z.f_NoLine_init Z.fd_NoLine_init ["self", "line"] (sp_err1 Z.c_NoLine "line") := by
  refine T.F_NoLine_init.ok sc_NoLine_init (fun vs H Q E h => ?_) (fun cdv AA outer s H vs Q E hr h => ?_)
  · obtain ⟨a, v0, rfl, _⟩ := h
    rfl
  · obtain ⟨a, v0, rfl, ha, k⟩ := h
    have TX := exB_ok T.x_NoLine
    refine ⟨_, (pss_cons (ps_expr (pe_binit rfl T.m_BeatError (baseB_ok T.q_BeatError) (pa_cons (pv 0) (pa_cons pe_str pa_nil))))
      (pss_one (ps_ost (pv 0) (pv 1)))), ?_⟩
    exact err1_run TX.ox (TX.no _ (by decide +kernel)) ha k
/-! ### the law's cells and draws -/
def sp_cell_at_l (K : PySem.W.Frag) : Sp := fun vs H Q _ => ∃ (a : Addr) (ns : List Int) (k : Int), vs = [.ref a, .int k] ∧ SqL K H a (ns.map V.int) ∧ 0 ≤ k ∧ ∀ n, Q (.int n) H
def sp_box_l : Sp := fun vs H Q _ => ∃ (c : Int), vs = [.int c] ∧ ∀ p H2, H p = none → Ex H H2 → BoxAt H2 p → Q (.ref p) H2
def sp_take_l : Sp := fun vs H Q _ => ∃ (b : Addr) (m : Int), vs = [.ref b, .int m] ∧ BoxAt H b ∧ 0 < m ∧ m < 1073741824 ∧ ∀ d H2, 0 ≤ d → d < m → ExB b H H2 → BoxAt H2 b → Q (.int d) H2
theorem ok_cell_at_l (T : Txt K mg Z) : FnOk P w K mg base CX0 1 Z.f_cell_at_l Z.fd_cell_at_l ["_law_script", "_law_k"] (sp_cell_at_l K) := by
  refine T.F_cell_at_l.ok sc_cell_at_l (fun vs H Q E h => ?_) (fun cdv AA outer s H vs Q E hr h => ?_)
  · obtain ⟨a, ns, k, rfl, _⟩ := h
    rfl
  · obtain ⟨a, ns, k, rfl, hS, h0, q⟩ := h
    refine ⟨_, (pss_cons (ps_if (pt_cmpR op_lt (pv 1) (pe_callB call_len_seq (by rfl) T.n_len (by decide +kernel) (pa_cons (pv 0) pa_nil)) (nomark _)) (pss_one (ps_ret (pe_ix ix_list (pv 0) (pv 1) (fun _ _ => rfl)))) pss_nil)
      (pss_one (ps_ret (pe_op op_add (pe_op op_mul pe_int (pv 1)) pe_int)))), ?_⟩
    walk_at "ss"
    refine ⟨_, _, rfl, .inl hS, ?_⟩
    walk_at "ss"
    refine if_cs (fun hb => ?_) (fun hb => ?_)
    · walk_at "ss"
      obtain ⟨j, rfl⟩ := Int.eq_ofNat_of_zero_le h0
      have hl := of_decide_eq_true hb
      rw [List.length_map] at hl
      have hj : j < ns.length := by omega
      refine c_ixL hS (atI_nat (v := .int (ns[j]'hj)) ?_) (q _)
      rw [List.getElem?_map, List.getElem?_eq_getElem hj] <;> rfl
    · walk_at "ss"
      refine c_I (.inl ⟨by decide, by decide⟩) ?_
      walk_at "ss"
      exact q _
theorem int_mul01 {a : Int} {b : Bool} : CMul a (if b = true then 1 else 0) := by
  refine .inr ?_
  cases b
  · exact ⟨by decide, by decide⟩
  · exact ⟨by decide, by decide⟩
theorem ok_box_l (T : Txt K mg Z) : FnOk P w K mg base CX0 1 Z.f_box_l Z.fd_box_l ["_law_cell"] sp_box_l := by
  refine T.F_box_l.ok sc_box_l (fun vs H Q E h => ?_) (fun cdv AA outer s H vs Q E hr h => ?_)
  · obtain ⟨c, rfl, _⟩ := h
    rfl
  · obtain ⟨c, rfl, k⟩ := h
    refine ⟨_, (pss_one (ps_ret (pe_lst (pa_cons (pe_op op_mul (pe_callB (call_max2 rfl) (by rfl) T.n_max (by decide +kernel) (pa_cons pe_int (pa_cons (pv 0) pa_nil))) (pe_callTy call_int1 (by rfl) T.n_int (by decide +kernel) (pa_cons (pe_cmpR op_ge (pv 0) (pe_op op_pow pe_int pe_int) (nomark _)) pa_nil))) (pa_cons (pe_op op_mod (pv 0) pe_int) (pa_cons pe_int pa_nil)))))), ?_⟩
    walk_at "ss"
    refine ⟨_, _, rfl, ?_⟩
    walk_at "ss"
    refine c_I ⟨by decide, by decide, by decide⟩ ?_
    walk_at "ss"
    refine .inr ⟨_, rfl, ?_⟩
    walk_at "ss"
    refine c_I int_mul01 ?_
    walk_at "ss"
    refine c_I (by decide) ?_
    walk_at "ss"
    refine newL fun p H2 hp e2 h2 => k p H2 hp e2 ⟨_, _, _, ?_, h2⟩
    refine Int.mul_nonneg ?_ ?_
    · split <;> omega
    · split <;> omega
theorem ix3_0 {a b c : V} : atI [a, b, c] 0 = some a := rfl
theorem ix3_1 {a b c : V} : atI [a, b, c] 1 = some b := rfl
theorem ix3_2 {a b c : V} : atI [a, b, c] 2 = some c := rfl
theorem emod_mul {a m : Int} (h : 0 < m) (hm : m < 1073741824 * 1073741824) {b : Int} : CMul (a % m) b := by
  have h1 := Int.emod_nonneg a (by omega : m ≠ 0)
  have h2 := Int.emod_lt_of_pos a h
  exact .inl ⟨by omega, by omega⟩
theorem ok_take_l (T : Txt K mg Z) : FnOk P w K mg base CX0 1 Z.f_take_l Z.fd_take_l ["_law_box_here", "_law_many"] sp_take_l := by
  refine T.F_take_l.ok sc_take_l (fun vs H Q E h => ?_) (fun cdv AA outer s H vs Q E hr h => ?_)
  · obtain ⟨b, m, rfl, _⟩ := h
    rfl
  · obtain ⟨b, m, rfl, ⟨x, y, z, hx, hB⟩, m0, m1, k⟩ := h
    refine ⟨_, (pss_cons (ps_if (pt_cmpR op_gt (pe_ix ix_list (pv 0) pe_int (fun _ _ => rfl)) pe_int (nomark _)) (pss_cons (ps_set (i := 2) sc_take_l.nd rfl (Or.inl rfl) (pe_op op_mod (pe_ix ix_list (pv 0) pe_int (fun _ _ => rfl)) (pv 1)))
      (pss_cons (ps_asg (pe_op op_fdiv (pe_ix ix_list (pv 0) pe_int (fun _ _ => rfl)) (pv 1)) (pg_sub (pv 0) pe_int set_list))
      (pss_one (ps_ret (pv 2))))) pss_nil)
      (pss_cons (ps_asg (pe_op op_add (pe_ix ix_list (pv 0) pe_int (fun _ _ => rfl)) pe_int) (pg_sub (pv 0) pe_int set_list))
      (pss_cons (ps_set (i := 3) sc_take_l.nd rfl (Or.inl rfl) (pe_op op_mod (pe_op op_mul (pe_op op_add (pe_ix ix_list (pv 0) pe_int (fun _ _ => rfl)) (pe_op op_mul pe_int (pe_ix ix_list (pv 0) pe_int (fun _ _ => rfl)))) pe_int) pe_int))
      (pss_cons (ps_set (i := 3) sc_take_l.nd rfl (Or.inl rfl) (pe_op op_mod (pe_op op_mul (pv 3) (pv 3)) pe_int))
      (pss_cons (ps_set (i := 4) sc_take_l.nd rfl (Or.inl rfl) (pe_op op_fdiv (pe_op op_mod (pe_op op_mul (pe_op op_add (pv 3) (pe_ix ix_list (pv 0) pe_int (fun _ _ => rfl))) (pe_op op_add (pv 3) pe_int)) pe_int) pe_int))
      (pss_cons (ps_set (i := 5) sc_take_l.nd rfl (Or.inl rfl) (pe_op op_mod (pe_op op_add (pe_op op_mul (pv 3) pe_int) (pe_op op_mul pe_int (pe_ix ix_list (pv 0) pe_int (fun _ _ => rfl)))) pe_int))
      (pss_one (ps_ret (pe_op op_mod (pe_op op_add (pe_op op_mul (pv 4) pe_int) (pe_op op_mod (pe_op op_mul (pv 5) (pv 5)) pe_int)) (pv 1)))))))))), ?_⟩
    walk_at "ss"
    refine c_ixL (SqL.of hB) ix3_0 ?_
    walk_at "ss"
    refine if_cs (fun hb => ?_) (fun hb => ?_)
    · walk_at "ss"
      refine c_ixL (SqL.of hB) ix3_0 ?_
      walk_at "ss"
      refine c_I m0 ?_
      walk_at "ss"
      refine c_ixL (SqL.of hB) ix3_0 ?_
      walk_at "ss"
      refine c_I ⟨m0, m1⟩ ?_
      walk_at "ss"
      refine c_setL hB rfl ?_
      walk_at "ss"
      refine k _ _ (Int.emod_nonneg _ (by omega)) (Int.emod_lt_of_pos _ m0) ExB.upd ⟨_, _, _, Int.ediv_nonneg hx (by omega), upd_same⟩
    · walk_at "ss"
      refine c_ixL (SqL.of hB) ix3_2 ?_
      walk_at "ss"
      refine c_setL hB rfl ?_
      have hB2 : (upd H b (.lst [.int x, .int y, .int (z + 1)])) b = some (.lst [.int x, .int y, .int (z + 1)]) := upd_same
      walk_at "ss"
      refine c_ixL (SqL.of hB2) ix3_1 ?_
      walk_at "ss"
      refine c_ixL (SqL.of hB2) ix3_2 ?_
      walk_at "ss"
      refine c_I (.inl ⟨by decide, by decide⟩) ?_
      walk_at "ss"
      refine c_I (.inr ⟨by decide, by decide⟩) ?_
      walk_at "ss"
      refine c_I (by decide) ?_
      walk_at "ss"
      refine c_I (emod_mul (by decide) (by decide)) ?_
      walk_at "ss"
      refine c_I (by decide) ?_
      walk_at "ss"
      refine c_ixL (SqL.of hB2) ix3_2 ?_
      walk_at "ss"
      refine c_I (.inr ?_) ?_
      · have h1 := Int.emod_nonneg ((y + 7919 * (z + 1)) * 48271 % 2147483647 * ((y + 7919 * (z + 1)) * 48271 % 2147483647)) (by decide : (2147483629 : Int) ≠ 0)
        have h2 := Int.emod_lt_of_pos ((y + 7919 * (z + 1)) * 48271 % 2147483647 * ((y + 7919 * (z + 1)) * 48271 % 2147483647)) (by decide : (0 : Int) < 2147483629)
        exact ⟨by omega, by omega⟩
      walk_at "ss"
      refine c_I (by decide) ?_
      walk_at "ss"
      refine c_I ⟨by decide, by decide⟩ ?_
      walk_at "ss"
      refine c_I (.inr ⟨by decide, by decide⟩) ?_
      walk_at "ss"
      refine c_ixL (SqL.of hB2) ix3_2 ?_
      walk_at "ss"
      refine c_I (.inl ⟨by decide, by decide⟩) ?_
      walk_at "ss"
      refine c_I (by decide) ?_
      walk_at "ss"
      refine c_I (.inr ⟨by decide, by decide⟩) ?_
      walk_at "ss"
      refine c_I (emod_mul (by decide) (by decide)) ?_
      walk_at "ss"
      refine c_I (by decide) ?_
      walk_at "ss"
      refine c_I m0 ?_
      walk_at "ss"
      exact k _ _ (Int.emod_nonneg _ (by omega)) (Int.emod_lt_of_pos _ m0) ExB.upd ⟨_, _, _, hx, upd_same⟩

theorem box_ne {H : Hp} {b a : Addr} {o : HO} (h : BoxAt H b) (ha : H a = some o) (n : ∀ x y z : Int, o ≠ .lst [.int x, .int y, .int z]) : a ≠ b := by
  obtain ⟨x, y, z, _, q⟩ := h
  exact ne_of ha q (n x y z)
theorem at4 {v0 v1 v2 v3 : V} {d : Int} (h0 : 0 ≤ d) (h1 : d < 4) : ∃ v, atI [v0, v1, v2, v3] d = some v ∧ (d = 0 ∧ v = v0 ∨ d = 1 ∧ v = v1 ∨ d = 2 ∧ v = v2 ∨ d = 3 ∧ v = v3) := by
  have : d = 0 ∨ d = 1 ∨ d = 2 ∨ d = 3 := by omega
  rcases this with rfl | rfl | rfl | rfl
  · exact ⟨v0, rfl, .inl ⟨rfl, rfl⟩⟩
  · exact ⟨v1, rfl, .inr (.inl ⟨rfl, rfl⟩)⟩
  · exact ⟨v2, rfl, .inr (.inr (.inl ⟨rfl, rfl⟩))⟩
  · exact ⟨v3, rfl, .inr (.inr (.inr ⟨rfl, rfl⟩))⟩
/-- an item of a list that is asked by a draw: it is one of them -/
theorem at_in {xs : List V} {d : Int} (h0 : 0 ≤ d) (h1 : d < (xs.length : Int)) : ∃ v, atI xs d = some v ∧ v ∈ xs := by
  obtain ⟨j, rfl⟩ := Int.eq_ofNat_of_zero_le h0
  have hj : j < xs.length := by omega
  exact ⟨xs[j], atI_nat (List.getElem?_eq_getElem hj), List.getElem_mem hj⟩

theorem c_disp {trs : List (TE × TE)} {σ : St} {H : Hp} {Q : VK} (h : ∀ p, H p = none → tPairs trs σ (upd H p (.dK [])) fun ps H2 => H2 p = some (.dK []) ∧ ∃ kvs : List (Key × V), ps = kvs.map (fun kv => (kV kv.1, kv.2)) ∧ kvs.length ≤ 15 ∧ Q (.ref p) (upd H2 p (.dK (mergeK [] kvs)))) : tDisp trs σ H Q := h
theorem c_pairs {tk tv : TE} {r : List (TE × TE)} {σ : St} {H : Hp} {Q : List (V × V) → Hp → Prop} (h : tk σ H fun x H1 => tv σ H1 fun y H2 => tPairs r σ H2 fun ps H3 => Q ((x, y) :: ps) H3) : tPairs ((tk, tv) :: r) σ H Q := h
theorem c_pairs0 {σ : St} {H : Hp} {Q : List (V × V) → Hp → Prop} (h : Q [] H) : tPairs [] σ H Q := h
/-! ### things -/
def moreV : V := .str "more"
/-- a thing, at most n times changed -/
inductive Thing (n : Nat) (H : Hp) : V → Prop
  | int (i : Int) : Thing n H (.int i)
  | text : Thing n H (.str "text")
  | non : Thing n H .non
  | yes : Thing n H (.bl true)
  | tup {p : Addr} {i : Int} : H p = some (.tup [.int i, .str "a"]) → Thing n H (.ref p)
  | lst {p : Addr} {i : Int} {m : Nat} : m ≤ n → H p = some (.lst (.int i :: List.replicate m moreV)) → Thing n H (.ref p)
  | dic {p : Addr} {i : Int} : H p = some (.dK [(.inr "a", .int i)]) → Thing n H (.ref p)
  | dic2 {p : Addr} {i : Int} : H p = some (.dK [(.inr "a", .int i), (.inr "more", .int 1)]) → Thing n H (.ref p)
theorem Thing.mono {n n' : Nat} {H : Hp} {v : V} (h : Thing n H v) (hn : n ≤ n') : Thing n' H v := by
  cases h with
  | int i => exact .int i
  | text => exact .text
  | non => exact .non
  | yes => exact .yes
  | tup h => exact .tup h
  | lst m h => exact .lst (Nat.le_trans m hn) h
  | dic h => exact .dic h
  | dic2 h => exact .dic2 h
theorem Thing.at {n : Nat} {H : Hp} {p : Addr} (h : Thing n H (.ref p)) : ∃ o, H p = some o := by
  cases h with
  | tup h => exact ⟨_, h⟩
  | lst m h => exact ⟨_, h⟩
  | dic h => exact ⟨_, h⟩
  | dic2 h => exact ⟨_, h⟩
theorem Thing.keep {n : Nat} {H H2 : Hp} {v : V} (h : Thing n H v) (k : ∀ p o, v = .ref p → H p = some o → H2 p = some o) : Thing n H2 v := by
  cases h with
  | int i => exact .int i
  | text => exact .text
  | non => exact .non
  | yes => exact .yes
  | tup h => exact .tup (k _ _ rfl h)
  | lst m h => exact .lst m (k _ _ rfl h)
  | dic h => exact .dic (k _ _ rfl h)
  | dic2 h => exact .dic2 (k _ _ rfl h)
theorem Thing.ex {n : Nat} {H H2 : Hp} {v : V} (h : Thing n H v) (e : Ex H H2) : Thing n H2 v := h.keep fun p o _ q => e p o q
def sp_thing_l : Sp := fun vs H Q _ => ∃ (b : Addr), vs = [.ref b] ∧ BoxAt H b ∧ ∀ v H2, Thing 0 H2 v → (∀ p, v = .ref p → H p = none) → ExB b H H2 → BoxAt H2 b → Q v H2
theorem back_none {b : Addr} {H H2 : Hp} {p : Addr} (e : ExB b H H2) (hb : ∃ o, H2 b = some o) (h : H2 p = none) : H p = none := by
  cases q : H p with
  | none => rfl
  | some o =>
    by_cases z : p = b
    · obtain ⟨o', hb⟩ := hb
      rw [z, hb] at h
      cases h
    · rw [e p o z q] at h
      cases h
theorem ex_back {H H2 : Hp} {p : Addr} (e : Ex H H2) (h : H2 p = none) : H p = none := Evl.fresh_back e h
theorem ok_thing_l (T : Txt K mg Z) : FnOk P w K mg base CX0 2 Z.f_thing_l Z.fd_thing_l ["_law_box_here"] sp_thing_l := by
  have G_take_l := ok_take_l (P := P) (w := w) (base := base) T
  refine T.F_thing_l.ok sc_thing_l (fun vs H Q E h => ?_) (fun cdv AA outer s H vs Q E hr h => ?_)
  · obtain ⟨b, rfl, _⟩ := h
    rfl
  · obtain ⟨b, rfl, hB, k⟩ := h
    refine ⟨_, (pss_cons (ps_set (i := 1) sc_thing_l.nd rfl (Or.inl rfl) (pe_call G_take_l (hr.mono (by decide)) rfl T.g_take_l T.F_take_l.kp T.b_take_l .nil pass0 (pa_cons (pv 0) (pa_cons (pe_op op_pow pe_int pe_int) pa_nil))))
      (pss_one (ps_ret (pe_ix ix_list (pe_lst (pa_cons (pv 1) (pa_cons (pe_op op_sub pe_int (pv 1)) (pa_cons pe_str (pa_cons pe_non (pa_cons (pe_lst (pa_cons (pv 1) pa_nil)) (pa_cons (pe_tup (pa_cons (pv 1) (pa_cons pe_str pa_nil))) (pa_cons (pe_disp (pps_cons pe_str (pv 1) pps_nil) (by rfl) (by rfl) (fun z => by cases z) (by decide)) (pa_cons pe_bl pa_nil))))))))) (pe_call G_take_l (hr.mono (by decide)) rfl T.g_take_l T.F_take_l.kp T.b_take_l .nil pass0 (pa_cons (pv 0) (pa_cons pe_int pa_nil))) (fun _ _ => rfl))))), ?_⟩
    walk_at "ss"
    refine c_I ⟨by decide, by decide, by decide⟩ ?_
    walk_at "ss"
    refine ⟨b, _, rfl, hB, by decide, by decide, fun d H1 d0 d1 x1 hB1 => ?_⟩
    walk_at "ss"
    refine newL fun p2 H2 hp2 e2 g2 => ?_
    walk_at "ss"
    refine newT fun p3 H3 hp3 e3 g3 => ?_
    walk_at "ss"
    refine c_disp fun p4 hp4 => c_pairs ?_
    walk_at "ss"
    refine c_pairs0 ?_
    refine ⟨upd_same, [(.inr "a", .int d)], rfl, (by show 1 ≤ 15; decide), ?_⟩
    have e4 : Ex H3 (upd (upd H3 p4 (.dK [])) p4 (.dK (mergeK [] [(.inr "a", .int d)]))) := fun a' o' ha' => by
      rw [upd_ne (ne_of_none ha' hp4), upd_ne (ne_of_none ha' hp4)]
      exact ha'
    generalize hH4 : upd (upd H3 p4 (.dK [])) p4 (.dK (mergeK [] [(.inr "a", .int d)])) = H4 at e4
    have g4 : H4 p4 = some (.dK [(.inr "a", .int d)]) := by rw [← hH4, upd_same]; rfl
    walk_at "ss"
    refine newL fun p5 H5 hp5 e5 g5 => ?_
    walk_at "ss"
    have e15 := ((e2.trans e3).trans e4).trans e5
    refine ⟨b, 8, rfl, hB1.ex e15, by decide, by decide, fun d6 H6 d60 d61 x6 hB6 => ?_⟩
    have nb : ∀ {p : Addr} {G : Hp}, BoxAt G b → G p = none → p ≠ b := fun hG hp z => by
      obtain ⟨o, ho⟩ := hG.some
      rw [z, ho] at hp
      cases hp
    have n5 : p5 ≠ b := nb (hB1.ex ((e2.trans e3).trans e4)) hp5
    obtain ⟨v, ha, hv⟩ := at_in (xs := [.int d, .int (0 - d), .str "text", .non, .ref p2, .ref p3, .ref p4, .bl true]) d60 d61
    refine c_ixL (SqL.of (x6 _ _ n5 g5)) ha ?_
    walk_at "ss"
    have xx : ExB b H H6 := (x1.ex e15).trans x6
    have b1 : ∃ o, H1 b = some o := hB1.some
    have up : ∀ {p : Addr} {o : HO} {G : Hp}, p ≠ b → Ex G H5 → G p = some o → H6 p = some o := fun hp e q => x6 _ _ hp (e _ _ q)
    refine k v H6 ?_ ?_ xx hB6
    · simp only [List.mem_cons, List.not_mem_nil, or_false] at hv
      rcases hv with rfl | rfl | rfl | rfl | rfl | rfl | rfl | rfl
      · exact .int _
      · exact .int _
      · exact .text
      · exact .non
      · exact .lst (m := 0) (Nat.le_refl 0) (up (nb hB1 hp2) ((e3.trans e4).trans e5) g2)
      · exact .tup (up (nb (hB1.ex e2) hp3) (e4.trans e5) g3)
      · exact .dic (up (nb (hB1.ex (e2.trans e3)) hp4) e5 g4)
      · exact .yes
    · intro p hp
      subst hp
      simp only [List.mem_cons, List.not_mem_nil, or_false, reduceCtorEq, false_or, V.ref.injEq] at hv
      rcases hv with rfl | rfl | rfl
      · exact back_none x1 b1 hp2
      · exact back_none x1 b1 (ex_back e2 hp3)
      · exact back_none x1 b1 (ex_back (e2.trans e3) hp4)
/-! ### same -/
theorem eqv_refl_of {K : PySem.W.Frag} {n : Nat} {H : Hp} {x : V} (h : Thing n H x) (hd : ∀ p kvs, x = .ref p → H p ≠ some (.dK kvs)) : ∃ d, Dp K H x d ∧ SeqAt.shaped d = true ∧ PyData.eqv d d = true := by
  have fl : ∀ {v : V}, okV v = true → ∃ d, Dp K H v d ∧ SeqAt.shaped d = true ∧ PyData.eqv d d = true := fun {v} hv => ⟨dOf v, dp_flat (okV_flat hv), shaped_flat hv, by rw [eqv_flat (okV_flat hv) (okV_flat hv)]; exact eqV_refl (okV_flat hv)⟩
  cases h with
  | int i => exact fl rfl
  | text => exact fl (by decide +kernel)
  | non => exact fl rfl
  | yes => exact fl rfl
  | tup h =>
    rename_i p i
    have ho : ([.int i, .str "a"] : List V).all okV = true := by
      show (true && (okV (.str "a") && true)) = true
      decide +kernel
    exact ⟨_, .tup (SqT.of h) (dpAll_flat (okL_flat ho)), shaped_tup ho, by
      rw [PyData.eqv, eqvAll_flat (okL_flat ho) (okL_flat ho)]
      exact eqL_refl (okL_flat ho)⟩
  | lst hm h =>
    rename_i p i m
    have ho : (V.int i :: List.replicate m moreV).all okV = true := by
      rw [List.all_cons, List.all_replicate]
      show (okV (.int i) && (if m = 0 then true else okV moreV)) = true
      rw [show okV moreV = true by decide +kernel]
      cases m <;> rfl
    exact ⟨_, .lst (SqL.of h) (dpAll_flat (okL_flat ho)), shaped_lst ho, by
      rw [PyData.eqv, eqvAll_flat (okL_flat ho) (okL_flat ho)]
      exact eqL_refl (okL_flat ho)⟩
  | dic h => exact absurd h (hd _ _ rfl)
  | dic2 h => exact absurd h (hd _ _ rfl)
def sp_same_l : Sp := fun vs H Q _ => ∃ (n : Nat) (x : V), vs = [x, x] ∧ n ≤ 1000 ∧ Thing n H x ∧ ∀ H2, ExS (fun a => x = .ref a) H H2 → Thing (n + 1) H2 x → Q (.bl true) H2
theorem c_dput {td ty tv : TE} {D : Ends} {σ : St} {H : Hp} (h : tv σ H fun v H1 => td σ H1 fun x H2 => ty σ H2 fun y H3 => ∃ a H4, x = .ref a ∧ DPut H3 a y v H4 ∧ D.nx σ H4) : sDPut td ty tv D σ H := h
def Plain (K : PySem.W.Frag) (H : Hp) (x : V) : Prop := ∃ (n : String) (b : Bool) (d : PyData), TyX K H x (.type n) ∧ kitB n "bool" = some b ∧ kitB n "list" = some false ∧ kitB n "dict" = some false ∧ Dp K H x d ∧ SeqAt.shaped d = true ∧ PyData.eqv d d = true
theorem thing3 {K : PySem.W.Frag} {n : Nat} {H : Hp} {x : V} (h : Thing n H x) : Plain K H x ∨ (∃ p i m, x = .ref p ∧ m ≤ n ∧ H p = some (.lst (.int i :: List.replicate m moreV))) ∨ ∃ p i, x = .ref p ∧ (H p = some (.dK [(.inr "a", .int i)]) ∨ H p = some (.dK [(.inr "a", .int i), (.inr "more", .int 1)])) := by
  have h0 := h
  cases h with
  | int i =>
    obtain ⟨d, h1, h2, h3⟩ := eqv_refl_of (K := K) h0 (fun p kvs q => by cases q)
    exact .inl ⟨_, false, d, ty_int i, by decide +kernel, by decide +kernel, by decide +kernel, h1, h2, h3⟩
  | text =>
    obtain ⟨d, h1, h2, h3⟩ := eqv_refl_of (K := K) h0 (fun p kvs q => by cases q)
    exact .inl ⟨_, false, d, ty_str _, by decide +kernel, by decide +kernel, by decide +kernel, h1, h2, h3⟩
  | non =>
    obtain ⟨d, h1, h2, h3⟩ := eqv_refl_of (K := K) h0 (fun p kvs q => by cases q)
    exact .inl ⟨_, false, d, ty_non, by decide +kernel, by decide +kernel, by decide +kernel, h1, h2, h3⟩
  | yes =>
    obtain ⟨d, h1, h2, h3⟩ := eqv_refl_of (K := K) h0 (fun p kvs q => by cases q)
    exact .inl ⟨_, true, d, ty_bl _, by decide +kernel, by decide +kernel, by decide +kernel, h1, h2, h3⟩
  | tup e =>
    obtain ⟨d, h1, h2, h3⟩ := eqv_refl_of (K := K) h0 (fun p kvs q z => by cases q; rw [e] at z; cases z)
    exact .inl ⟨_, false, d, ty_tup e, by decide +kernel, by decide +kernel, by decide +kernel, h1, h2, h3⟩
  | lst hm e => exact .inr (.inl ⟨_, _, _, rfl, hm, e⟩)
  | dic e => exact .inr (.inr ⟨_, _, rfl, .inl e⟩)
  | dic2 e => exact .inr (.inr ⟨_, _, rfl, .inr e⟩)
theorem list_dp {K : PySem.W.Frag} {H : Hp} {p : Addr} {i : Int} {m : Nat} (e : H p = some (.lst (.int i :: List.replicate m moreV))) : ∃ d, Dp K H (.ref p) d ∧ SeqAt.shaped d = true ∧ PyData.eqv d d = true :=
  eqv_refl_of (Thing.lst (n := m) (Nat.le_refl _) e) (fun p kvs q z => by cases q; rw [e] at z; cases z)
theorem kb_lb : kitB "list" "bool" = some false := by decide +kernel
theorem kb_ll : kitB "list" "list" = some true := by decide +kernel
theorem kb_db : kitB "dict" "bool" = some false := by decide +kernel
theorem kb_dl : kitB "dict" "list" = some false := by decide +kernel
theorem kb_dd : kitB "dict" "dict" = some true := by decide +kernel
theorem ok2 {i : Int} : ∀ k u, valV ([(.inr "a", .int i), (.inr "more", .int 1)] : List (Key × V)) k = some u → okV u = true := by
  intro k u h
  by_cases h1 : (.inr "a" : Key) = k
  · rw [valV_pos h1] at h
    cases h
    rfl
  · rw [valV_neg h1] at h
    by_cases h2 : (.inr "more" : Key) = k
    · rw [valV_pos h2] at h
      cases h
      rfl
    · rw [valV_neg h2, valV_nil] at h
      cases h
theorem ok1 {i : Int} : ∀ k u, valV ([(.inr "a", .int i)] : List (Key × V)) k = some u → okV u = true := by
  intro k u h
  by_cases h1 : (.inr "a" : Key) = k
  · rw [valV_pos h1] at h
    cases h
    rfl
  · rw [valV_neg h1, valV_nil] at h
    cases h
theorem ma : (.inr "a" : Key) ≠ .inr "more" := by decide +kernel
theorem eqK1 {i : Int} : eqK [(.inr "a", .int i)] [(.inr "a", .int i)] = true := by
  unfold eqK
  rw [List.all_cons, valV_pos rfl]
  simp [eqV]
theorem eqK2 {i : Int} : eqK [(.inr "a", .int i), (.inr "more", .int 1)] [(.inr "a", .int i), (.inr "more", .int 1)] = true := by
  unfold eqK
  rw [List.all_cons, List.all_cons, valV_pos rfl, valV_neg ma, valV_pos rfl]
  simp [eqV]
theorem put1 {i : Int} : putK ([(.inr "a", .int i)] : List (Key × V)) (.inr "more") (.int 1) = [(.inr "a", .int i), (.inr "more", .int 1)] := by
  unfold putK
  have ma' : ¬ (("a" : Str) = "more") := by decide +kernel
  rw [if_neg (by simp [ma'])]
  rfl
theorem put2 {i : Int} : putK ([(.inr "a", .int i), (.inr "more", .int 1)] : List (Key × V)) (.inr "more") (.int 1) = [(.inr "a", .int i), (.inr "more", .int 1)] := by
  unfold putK
  have ma' : ¬ (("a" : Str) = "more") := by decide +kernel
  rw [if_pos (by simp)]
  simp [ma']
theorem exS_upd {x : V} {p : Addr} {H : Hp} {o : HO} (e : x = .ref p) : ExS (fun a => x = .ref a) H (upd H p o) := fun a u na ha => by
  rw [upd_ne (fun z => na (by rw [e, z]))]
  exact ha
theorem ok_same_l (T : Txt K mg Z) : FnOk P w K mg base CX0 1 Z.f_same_l Z.fd_same_l ["_law_found", "_law_due"] sp_same_l := by
  refine T.F_same_l.ok sc_same_l (fun vs H Q E h => ?_) (fun cdv AA outer s H vs Q E hr h => ?_)
  · obtain ⟨n, x, rfl, _⟩ := h
    rfl
  · obtain ⟨n, x, rfl, hn, hx, k⟩ := h
    refine ⟨_, (pss_cons (ps_if (PW.pt (pw_or (pt_cmpR op_ne (pe_callB call_isi (by rfl) T.n_isinstance (by decide +kernel) (pa_cons (pv 0) (pa_cons (pe_bltn (v := .ty "bool") (by rfl) T.n_bool (by decide +kernel) rfl) pa_nil))) (pe_callB call_isi (by rfl) T.n_isinstance (by decide +kernel) (pa_cons (pv 1) (pa_cons (pe_bltn (v := .ty "bool") (by rfl) T.n_bool (by decide +kernel) rfl) pa_nil))) (nomark _)) (pw_or1 (pt_cmpR (op_or2 (op_neD hr.units) (op_neK (hu66 hr))) (pv 0) (pv 1) (nomark _))))) (pss_one (ps_ret pe_bl)) pss_nil)
      (pss_cons (ps_if (pt_val (pe_callB call_isi (by rfl) T.n_isinstance (by decide +kernel) (pa_cons (pv 1) (pa_cons (pe_bltn (v := .ty "list") (by rfl) T.n_list (by decide +kernel) rfl) pa_nil)))) (pss_cons (ps_expr (pe_bm PySem.F.plainAttrs_list PySem.F.slot_list_append PySem.F.type_list_append mt_append (pv 1) (pa_cons pe_str pa_nil)))
      (pss_one (ps_ret (pe_cmpR (op_or2 (op_eqD hr.units) (op_eqK (hu66 hr))) (pv 0) (pv 1) (nomark _))))) pss_nil)
      (pss_cons (ps_if (pt_val (pe_callB call_isi (by rfl) T.n_isinstance (by decide +kernel) (pa_cons (pv 1) (pa_cons (pe_bltn (v := .ty "dict") (by rfl) T.n_dict (by decide +kernel) rfl) pa_nil)))) (pss_cons (ps_dput (hu_of hr) (pv 1) pe_str pe_int rfl)
      (pss_one (ps_ret (pe_cmpR (op_or2 (op_eqD hr.units) (op_eqK (hu66 hr))) (pv 0) (pv 1) (nomark _))))) pss_nil)
      (pss_one (ps_ret pe_bl))))), ?_⟩
    rcases thing3 (K := K) hx with ⟨m, b, d, ty, k1, k2, k3, hd, sd, ed⟩ | ⟨p, i, m, rfl, hm, e⟩ | ⟨p, i, rfl, e⟩
    · walk_at "ss"
      refine isi ty k1 ?_
      walk_at "ss"
      refine isi ty k1 ?_
      walk_at "ss"
      rw [decide_eq_true rfl]
      walk_at "ss"
      refine .inl ⟨d, d, hd, hd, sd, sd, ?_⟩
      rw [ed]
      walk_at "ss"
      refine isi ty k2 ?_
      walk_at "ss"
      refine isi ty k3 ?_
      walk_at "ss"
      exact k H (ExS.refl _) (hx.mono (Nat.le_succ _))
    · obtain ⟨d, hd, sd, ed⟩ := list_dp (K := K) e
      walk_at "ss"
      refine isi (ty_lst e) kb_lb ?_
      walk_at "ss"
      refine isi (ty_lst e) kb_lb ?_
      walk_at "ss"
      rw [decide_eq_true rfl]
      walk_at "ss"
      refine .inl ⟨d, d, hd, hd, sd, sd, ?_⟩
      rw [ed]
      walk_at "ss"
      refine isi (ty_lst e) kb_ll ?_
      walk_at "ss"
      refine ⟨.inl ⟨rfl, _, SqL.of e⟩, ?_⟩
      walk_at "ss"
      refine ⟨p, _, _, rfl, rfl, e, Evl.sz_lt (by rw [List.length_cons, List.length_replicate]; omega), ?_⟩
      have e2 : upd H p (.lst ((.int i :: List.replicate m moreV) ++ [moreV])) p = some (.lst (.int i :: List.replicate (m + 1) moreV)) := by
        rw [upd_same, List.cons_append, List.replicate_succ']
      obtain ⟨d2, hd2, sd2, ed2⟩ := list_dp (K := K) e2
      walk_at "ss"
      refine .inl ⟨d2, d2, hd2, hd2, sd2, sd2, ?_⟩
      rw [ed2]
      exact k _ (exS_upd rfl) (.lst (by omega) e2)
    · have dict : ∃ kvs, H p = some (.dK kvs) ∧ (∀ q ∈ kvs, okV q.2 = true) ∧ (∀ k u, valV kvs k = some u → okV u = true) ∧ eqK kvs kvs = true ∧ kvs.length ≤ 2 ∧ putK kvs (.inr "more") (.int 1) = [(.inr "a", .int i), (.inr "more", .int 1)] := by
        rcases e with e | e
        · exact ⟨_, e, (fun q hq => by simp at hq; rw [hq]; rfl), ok1, eqK1, by simp, put1⟩
        · exact ⟨_, e, (fun q hq => by simp at hq; rcases hq with h | h <;> (rw [h]; rfl)), ok2, eqK2, by simp, put2⟩
      obtain ⟨kvs, e1, f1, f2, eq1, hl, pt⟩ := dict
      have ty : TyX K H (.ref p) (.type "dict") := .base (.dK e1)
      walk_at "ss"
      refine isi ty kb_db ?_
      walk_at "ss"
      refine isi ty kb_db ?_
      walk_at "ss"
      rw [decide_eq_true rfl]
      walk_at "ss"
      refine .inr ⟨p, p, kvs, kvs, rfl, rfl, e1, e1, f1, f2, ?_⟩
      rw [eq1]
      walk_at "ss"
      refine isi ty kb_dl ?_
      walk_at "ss"
      refine isi ty kb_dd ?_
      walk_at "ss"
      refine c_dput ?_
      walk_at "ss"
      refine ⟨p, _, rfl, DPut.k (k := .inr "more") e1 (Evl.sz_lt (by omega)), ?_⟩
      rw [pt]
      have e2 : upd H p (.dK [(.inr "a", .int i), (.inr "more", .int 1)]) p = some (.dK [(.inr "a", .int i), (.inr "more", .int 1)]) := upd_same
      walk_at "ss"
      refine .inr ⟨p, p, _, _, rfl, rfl, e2, e2, (fun q hq => by simp at hq; rcases hq with h | h <;> (rw [h]; rfl)), ok2, ?_⟩
      rw [eqK2]
      exact k _ (exS_upd rfl) (.dic2 e2)

/-! ### the pairs -/
/-- t: an error of the class at C beside two lists of vs, all of them where N holds -/
def PrA (N : Addr → Prop) (H : Hp) (vs : List V) (t : V) (C : Addr) : Prop := ∃ (T e d p q : Addr) (fs : List (Str × V)), t = .ref T ∧ H T = some (.tup [.ref e, .ref p, .ref q]) ∧ Er H e C d fs ∧ H p = some (.lst vs) ∧ H q = some (.lst vs) ∧ N T ∧ N e ∧ N d ∧ N p ∧ N q
theorem PrA.up {N : Addr → Prop} {H H2 : Hp} {vs : List V} {t : V} {C : Addr} (h : PrA N H vs t C) (e : ∀ a o, N a → H a = some o → H2 a = some o) : PrA N H2 vs t C := by
  obtain ⟨T, er, d, p, q, fs, rfl, h1, h2, h3, h4, n1, n2, n3, n4, n5⟩ := h
  exact ⟨T, er, d, p, q, fs, rfl, e _ _ n1 h1, ⟨e _ _ n2 h2.1, e _ _ n3 h2.2⟩, e _ _ n4 h3, e _ _ n5 h4, n1, n2, n3, n4, n5⟩
theorem PrA.imp {N N2 : Addr → Prop} {H : Hp} {vs : List V} {t : V} {C : Addr} (h : PrA N H vs t C) (e : ∀ a o, N a → H a = some o → N2 a) : PrA N2 H vs t C := by
  obtain ⟨T, er, d, p, q, fs, rfl, h1, h2, h3, h4, n1, n2, n3, n4, n5⟩ := h
  exact ⟨T, er, d, p, q, fs, rfl, h1, h2, h3, h4, e _ _ n1 h1, e _ _ n2 h2.1, e _ _ n3 h2.2, e _ _ n4 h3, e _ _ n5 h4⟩
/-- such pairs one by one -/
def Prl (N : Addr → Prop) (H : Hp) (vs : List V) (ts : List V) (Cs : List Addr) : Prop := ts.length = Cs.length ∧ ∀ (i : Nat) (t : V) (C : Addr), ts[i]? = some t → Cs[i]? = some C → PrA N H vs t C
theorem Prl.up {N : Addr → Prop} {H H2 : Hp} {vs ts : List V} {Cs : List Addr} (h : Prl N H vs ts Cs) (e : ∀ a o, N a → H a = some o → H2 a = some o) : Prl N H2 vs ts Cs := ⟨h.1, fun i t C h1 h2 => (h.2 i t C h1 h2).up e⟩
theorem Prl.imp {N N2 : Addr → Prop} {H : Hp} {vs ts : List V} {Cs : List Addr} (h : Prl N H vs ts Cs) (e : ∀ a o, N a → H a = some o → N2 a) : Prl N2 H vs ts Cs := ⟨h.1, fun i t C h1 h2 => (h.2 i t C h1 h2).imp e⟩
theorem Prl.app {N : Addr → Prop} {H : Hp} {vs ts ts2 : List V} {Cs Cs2 : List Addr} (h : Prl N H vs ts Cs) (h2 : Prl N H vs ts2 Cs2) : Prl N H vs (ts ++ ts2) (Cs ++ Cs2) := by
  refine ⟨by rw [List.length_append, List.length_append, h.1, h2.1], fun i t C ht hC => ?_⟩
  rcases Nat.lt_or_ge i ts.length with hi | hi
  · rw [List.getElem?_append_left hi] at ht
    rw [List.getElem?_append_left (by rw [← h.1]; exact hi)] at hC
    exact h.2 i t C ht hC
  · rw [List.getElem?_append_right hi] at ht
    rw [List.getElem?_append_right (by rw [← h.1]; exact hi), ← h.1] at hC
    exact h2.2 _ t C ht hC
theorem Prl.one {N : Addr → Prop} {H : Hp} {vs : List V} {t : V} {C : Addr} (h : PrA N H vs t C) : Prl N H vs [t] [C] := by
  refine ⟨rfl, fun i t' C' h1 h2 => ?_⟩
  cases i with
  | zero => cases h1; cases h2; exact h
  | succ i => simp at h1
/-- errors one by one -/
def Erl (N : Addr → Prop) (H : Hp) (f : Str) (v : V) (es : List V) (Cs : List Addr) : Prop := es.length = Cs.length ∧ ∀ (i : Nat) (x : V) (C : Addr), es[i]? = some x → Cs[i]? = some C → ∃ a d, x = .ref a ∧ Er H a C d [(f, v)] ∧ N a ∧ N d
theorem Erl.nil {N : Addr → Prop} {H : Hp} {f : Str} {v : V} : Erl N H f v [] [] := ⟨rfl, fun i x C h _ => by simp at h⟩
theorem Erl.cons {N : Addr → Prop} {H : Hp} {f : Str} {v : V} {a d C : Addr} {es : List V} {Cs : List Addr} (h : Er H a C d [(f, v)]) (na : N a) (nd : N d) (r : Erl N H f v es Cs) : Erl N H f v (.ref a :: es) (C :: Cs) := by
  refine ⟨by rw [List.length_cons, List.length_cons, r.1], fun i x C' h1 h2 => ?_⟩
  cases i with
  | zero => cases h1; cases h2; exact ⟨a, d, rfl, h, na, nd⟩
  | succ i => exact r.2 i x C' h1 h2
def onesC (Z : Adr) : List Addr := [Z.c_NoNumber, Z.c_NoValue, Z.c_NoName, Z.c_NoTerm, Z.c_NoEquation, Z.c_NoNode, Z.c_NoProgram, Z.c_NoBeats, Z.c_NoCells, Z.c_NoOrder] ++ [Z.c_Twice, Z.c_Unknown, Z.c_NoOut, Z.c_NoRead, Z.c_NoClock] ++ [Z.c_NoCall] ++ [Z.c_NoText] ++ [Z.c_TooMany] ++ [Z.c_NoFit] ++ [Z.c_Ring] ++ [Z.c_NoLine]
def twosC (Z : Adr) : List Addr := [Z.c_Hidden] ++ [Z.c_NoArgs] ++ [Z.c_NoInput] ++ [Z.c_NotYet]
def sp_ones_l (Z : Adr) : Sp := fun vs H Q _ => ∃ (v : V), vs = [v] ∧ ∀ ts p H2, H p = none → Ex H H2 → H2 p = some (.lst ts) → Prl (fun z => H z = none) H2 [v] ts (onesC Z) → Q (.ref p) H2
def sp_twos_l (Z : Adr) : Sp := fun vs H Q _ => ∃ (v u : V), vs = [v, u] ∧ ∀ ts p H2, H p = none → Ex H H2 → H2 p = some (.lst ts) → Prl (fun z => H z = none) H2 [v, u] ts (twosC Z) → Q (.ref p) H2
theorem tOk1 {K : PySem.W.Frag} {C : Addr} {fs : List Str} (T : exB K C fs = true) {f : Str} (h : f ∈ fs) : XfC K C ∧ PySem.W.findIn K (.ref C) f = some none := ⟨(exB_ok T).ic.xf, (exB_ok T).no f h⟩
theorem lk1 {f : Str} {v : V} : ([(f, v)] : List (Str × V)).lookup f = some v := by simp [List.lookup]
/-- one pair more -/
theorem app_pair {N : Addr → Prop} {H H2 : Hp} {l : Addr} {vs ts : List V} {T e d p q : Addr} {fs : List (Str × V)} {Cs : List Addr} {C : Addr} (h : Prl (fun a => N a ∧ a ≠ l) H vs ts Cs) (ex : Ex H H2) (h1 : H2 T = some (.tup [.ref e, .ref p, .ref q])) (h2 : Er H2 e C d fs) (h3 : H2 p = some (.lst vs)) (h4 : H2 q = some (.lst vs))
    (n : (N T ∧ T ≠ l) ∧ (N e ∧ e ≠ l) ∧ (N d ∧ d ≠ l) ∧ (N p ∧ p ≠ l) ∧ (N q ∧ q ≠ l)) : Prl (fun a => N a ∧ a ≠ l) (upd H2 l (.lst (ts ++ [.ref T]))) vs (ts ++ [.ref T]) (Cs ++ [C]) :=
  ((h.up fun a o _ ha => ex a o ha).app (Prl.one ⟨T, e, d, p, q, fs, rfl, h1, h2, h3, h4, n.1, n.2.1, n.2.2.1, n.2.2.2.1, n.2.2.2.2⟩)).up fun a o na ha => by rw [upd_ne na.2]; exact ha
theorem fr2 {H H0 : Hp} {l a : Addr} {o : HO} (e : ∀ a o, H0 a = some o → a ≠ l → H a = some o) (hl : H l = some o) (hl0 : H0 l = none) (ha : H a = none) : H0 a = none ∧ a ≠ l := by
  have h : a ≠ l := (ne_of_none hl ha).symm
  refine ⟨?_, h⟩
  cases q : H0 a with
  | none => rfl
  | some u =>
    rw [e a u q h] at ha
    cases ha
theorem ok_ones_l (T : Txt K mg Z) : FnOk P w K mg base CX0 3 Z.f_ones_l Z.fd_ones_l ["_law_one"] (sp_ones_l Z) := by
  have G_NoNumber_init := ok_NoNumber_init (P := P) (w := w) (base := base) T
  have G_NoValue_init := ok_NoValue_init (P := P) (w := w) (base := base) T
  have G_NoName_init := ok_NoName_init (P := P) (w := w) (base := base) T
  have G_NoTerm_init := ok_NoTerm_init (P := P) (w := w) (base := base) T
  have G_NoEquation_init := ok_NoEquation_init (P := P) (w := w) (base := base) T
  have G_NoNode_init := ok_NoNode_init (P := P) (w := w) (base := base) T
  have G_NoProgram_init := ok_NoProgram_init (P := P) (w := w) (base := base) T
  have G_NoText_init := ok_NoText_init (P := P) (w := w) (base := base) T
  have G_Twice_init := ok_Twice_init (P := P) (w := w) (base := base) T
  have G_Unknown_init := ok_Unknown_init (P := P) (w := w) (base := base) T
  have G_NoOut_init := ok_NoOut_init (P := P) (w := w) (base := base) T
  have G_NoRead_init := ok_NoRead_init (P := P) (w := w) (base := base) T
  have G_TooMany_init := ok_TooMany_init (P := P) (w := w) (base := base) T
  have G_NoFit_init := ok_NoFit_init (P := P) (w := w) (base := base) T
  have G_NoClock_init := ok_NoClock_init (P := P) (w := w) (base := base) T
  have G_Ring_init := ok_Ring_init (P := P) (w := w) (base := base) T
  have G_NoCall_init := ok_NoCall_init (P := P) (w := w) (base := base) T
  have G_NoBeats_init := ok_NoBeats_init (P := P) (w := w) (base := base) T
  have G_NoCells_init := ok_NoCells_init (P := P) (w := w) (base := base) T
  have G_NoOrder_init := ok_NoOrder_init (P := P) (w := w) (base := base) T
  have G_NoLine_init := ok_NoLine_init (P := P) (w := w) (base := base) T
  refine T.F_ones_l.ok sc_ones_l (fun vs H Q E h => ?_) (fun cdv AA outer s H vs Q E hr h => ?_)
  · obtain ⟨v, rfl, _⟩ := h
    rfl
  · obtain ⟨v, rfl, k⟩ := h
    refine ⟨_, (pss_cons (ps_set (i := 1) sc_ones_l.nd rfl (Or.inl rfl) (pe_lst (pa_cons (pe_mkv (exB_ok T.x_NoNumber).ox T.i_NoNumber T.y_NoNumber G_NoNumber_init (hr.mono (by decide)) T.b_NoNumber_init pass0 rfl T.m_NoNumber (pa_cons (pv 0) pa_nil)) (pa_cons (pe_mkv (exB_ok T.x_NoValue).ox T.i_NoValue T.y_NoValue G_NoValue_init (hr.mono (by decide)) T.b_NoValue_init pass0 rfl T.m_NoValue (pa_cons (pv 0) pa_nil)) (pa_cons (pe_mkv (exB_ok T.x_NoName).ox T.i_NoName T.y_NoName G_NoName_init (hr.mono (by decide)) T.b_NoName_init pass0 rfl T.m_NoName (pa_cons (pv 0) pa_nil)) (pa_cons (pe_mkv (exB_ok T.x_NoTerm).ox T.i_NoTerm T.y_NoTerm G_NoTerm_init (hr.mono (by decide)) T.b_NoTerm_init pass0 rfl T.m_NoTerm (pa_cons (pv 0) pa_nil)) (pa_cons (pe_mkv (exB_ok T.x_NoEquation).ox T.i_NoEquation T.y_NoEquation G_NoEquation_init (hr.mono (by decide)) T.b_NoEquation_init pass0 rfl T.m_NoEquation (pa_cons (pv 0) pa_nil)) (pa_cons (pe_mkv (exB_ok T.x_NoNode).ox T.i_NoNode T.y_NoNode G_NoNode_init (hr.mono (by decide)) T.b_NoNode_init pass0 rfl T.m_NoNode (pa_cons (pv 0) pa_nil)) (pa_cons (pe_mkv (exB_ok T.x_NoProgram).ox T.i_NoProgram T.y_NoProgram G_NoProgram_init (hr.mono (by decide)) T.b_NoProgram_init pass0 rfl T.m_NoProgram (pa_cons (pv 0) pa_nil)) pa_nil)))))))))
      (pss_cons (ps_setLc (i := 2) (own := [("_law_e", 3)]) (g := (gName 3)) (tt := tYes) (te := (tTup (tCons (tVar 3) (tCons (tLst (tCons (tXfV K "found" (tVar 3)) tNil)) (tCons (tLst (tCons (tVar 0) tNil)) tNil))))) rfl sc_ones_l.nd rfl rfl (sw_true rfl rfl rfl (by decide +kernel)) (pi_list (pe_op op_cat (pv 1) (pe_lst (pa_cons (pe_mkv (exB_ok T.x_NoBeats).ox T.i_NoBeats T.y_NoBeats G_NoBeats_init (hr.mono (by decide)) T.b_NoBeats_init pass0 rfl T.m_NoBeats (pa_cons (pv 0) pa_nil)) (pa_cons (pe_mkv (exB_ok T.x_NoCells).ox T.i_NoCells T.y_NoCells G_NoCells_init (hr.mono (by decide)) T.b_NoCells_init pass0 rfl T.m_NoCells (pa_cons (pv 0) pa_nil)) (pa_cons (pe_mkv (exB_ok T.x_NoOrder).ox T.i_NoOrder T.y_NoOrder G_NoOrder_init (hr.mono (by decide)) T.b_NoOrder_init pass0 rfl T.m_NoOrder (pa_cons (pv 0) pa_nil)) pa_nil)))))) (blkOk_by (own := [("_law_e", 3)]) (N := N_ones_l) (sc := defScope s_ones_l) (by decide +kernel)) (fun _ _ _ _ _ => (pg_name (i := 3) sc_ones_l.nd rfl (Or.inl rfl))) (fun _ _ _ _ _ => pts_nil) (fun _ _ _ _ _ => (pe_tup (pa_cons (pv 3) (pa_cons (pe_lst (pa_cons (pe_xfv (pv 3)) pa_nil)) (pa_cons (pe_lst (pa_cons (pv 0) pa_nil)) pa_nil))))))
      (pss_cons (ps_set (i := 2) sc_ones_l.nd rfl (Or.inl rfl) (pe_op op_cat (pv 2) (pe_lc (own := [("_law_e", 3)]) (g := (gName 3)) (tt := tYes) (te := (tTup (tCons (tVar 3) (tCons (tLst (tCons (tXfV K "name" (tVar 3)) tNil)) (tCons (tLst (tCons (tVar 0) tNil)) tNil))))) rfl sc_ones_l.nd (pi_list (pe_lst (pa_cons (pe_mkv (exB_ok T.x_Twice).ox T.i_Twice T.y_Twice G_Twice_init (hr.mono (by decide)) T.b_Twice_init pass0 rfl T.m_Twice (pa_cons (pv 0) pa_nil)) (pa_cons (pe_mkv (exB_ok T.x_Unknown).ox T.i_Unknown T.y_Unknown G_Unknown_init (hr.mono (by decide)) T.b_Unknown_init pass0 rfl T.m_Unknown (pa_cons (pv 0) pa_nil)) (pa_cons (pe_mkv (exB_ok T.x_NoOut).ox T.i_NoOut T.y_NoOut G_NoOut_init (hr.mono (by decide)) T.b_NoOut_init pass0 rfl T.m_NoOut (pa_cons (pv 0) pa_nil)) (pa_cons (pe_mkv (exB_ok T.x_NoRead).ox T.i_NoRead T.y_NoRead G_NoRead_init (hr.mono (by decide)) T.b_NoRead_init pass0 rfl T.m_NoRead (pa_cons (pv 0) pa_nil)) (pa_cons (pe_mkv (exB_ok T.x_NoClock).ox T.i_NoClock T.y_NoClock G_NoClock_init (hr.mono (by decide)) T.b_NoClock_init pass0 rfl T.m_NoClock (pa_cons (pv 0) pa_nil)) pa_nil))))))) (blkOk_by (own := [("_law_e", 3)]) (N := N_ones_l) (sc := defScope s_ones_l) (by decide +kernel)) (fun _ _ _ _ _ => (pg_name (i := 3) sc_ones_l.nd rfl (Or.inl rfl))) (fun _ _ _ _ _ => pts_nil) (fun _ _ _ _ _ => (pe_tup (pa_cons (pv 3) (pa_cons (pe_lst (pa_cons (pe_xfv (pv 3)) pa_nil)) (pa_cons (pe_lst (pa_cons (pv 0) pa_nil)) pa_nil))))))))
      (pss_cons (ps_set (i := 3) sc_ones_l.nd rfl (Or.inl rfl) (pe_mkv (exB_ok T.x_NoCall).ox T.i_NoCall T.y_NoCall G_NoCall_init (hr.mono (by decide)) T.b_NoCall_init pass0 rfl T.m_NoCall (pa_cons (pv 0) pa_nil)))
      (pss_cons (ps_expr (pe_bm PySem.F.plainAttrs_list PySem.F.slot_list_append PySem.F.type_list_append mt_append (pv 2) (pa_cons (pe_tup (pa_cons (pv 3) (pa_cons (pe_lst (pa_cons (pe_xfv (pv 3)) pa_nil)) (pa_cons (pe_lst (pa_cons (pv 0) pa_nil)) pa_nil)))) pa_nil)))
      (pss_cons (ps_set (i := 3) sc_ones_l.nd rfl (Or.inl rfl) (pe_mkv (exB_ok T.x_NoText).ox T.i_NoText T.y_NoText G_NoText_init (hr.mono (by decide)) T.b_NoText_init pass0 rfl T.m_NoText (pa_cons (pv 0) pa_nil)))
      (pss_cons (ps_expr (pe_bm PySem.F.plainAttrs_list PySem.F.slot_list_append PySem.F.type_list_append mt_append (pv 2) (pa_cons (pe_tup (pa_cons (pv 3) (pa_cons (pe_lst (pa_cons (pe_xfv (pv 3)) pa_nil)) (pa_cons (pe_lst (pa_cons (pv 0) pa_nil)) pa_nil)))) pa_nil)))
      (pss_cons (ps_set (i := 3) sc_ones_l.nd rfl (Or.inl rfl) (pe_mkv (exB_ok T.x_TooMany).ox T.i_TooMany T.y_TooMany G_TooMany_init (hr.mono (by decide)) T.b_TooMany_init pass0 rfl T.m_TooMany (pa_cons (pv 0) pa_nil)))
      (pss_cons (ps_expr (pe_bm PySem.F.plainAttrs_list PySem.F.slot_list_append PySem.F.type_list_append mt_append (pv 2) (pa_cons (pe_tup (pa_cons (pv 3) (pa_cons (pe_lst (pa_cons (pe_xfv (pv 3)) pa_nil)) (pa_cons (pe_lst (pa_cons (pv 0) pa_nil)) pa_nil)))) pa_nil)))
      (pss_cons (ps_set (i := 3) sc_ones_l.nd rfl (Or.inl rfl) (pe_mkv (exB_ok T.x_NoFit).ox T.i_NoFit T.y_NoFit G_NoFit_init (hr.mono (by decide)) T.b_NoFit_init pass0 rfl T.m_NoFit (pa_cons (pv 0) pa_nil)))
      (pss_cons (ps_expr (pe_bm PySem.F.plainAttrs_list PySem.F.slot_list_append PySem.F.type_list_append mt_append (pv 2) (pa_cons (pe_tup (pa_cons (pv 3) (pa_cons (pe_lst (pa_cons (pe_xfv (pv 3)) pa_nil)) (pa_cons (pe_lst (pa_cons (pv 0) pa_nil)) pa_nil)))) pa_nil)))
      (pss_cons (ps_set (i := 3) sc_ones_l.nd rfl (Or.inl rfl) (pe_mkv (exB_ok T.x_Ring).ox T.i_Ring T.y_Ring G_Ring_init (hr.mono (by decide)) T.b_Ring_init pass0 rfl T.m_Ring (pa_cons (pv 0) pa_nil)))
      (pss_cons (ps_expr (pe_bm PySem.F.plainAttrs_list PySem.F.slot_list_append PySem.F.type_list_append mt_append (pv 2) (pa_cons (pe_tup (pa_cons (pv 3) (pa_cons (pe_lst (pa_cons (pe_xfv (pv 3)) pa_nil)) (pa_cons (pe_lst (pa_cons (pv 0) pa_nil)) pa_nil)))) pa_nil)))
      (pss_cons (ps_set (i := 3) sc_ones_l.nd rfl (Or.inl rfl) (pe_mkv (exB_ok T.x_NoLine).ox T.i_NoLine T.y_NoLine G_NoLine_init (hr.mono (by decide)) T.b_NoLine_init pass0 rfl T.m_NoLine (pa_cons (pv 0) pa_nil)))
      (pss_cons (ps_expr (pe_bm PySem.F.plainAttrs_list PySem.F.slot_list_append PySem.F.type_list_append mt_append (pv 2) (pa_cons (pe_tup (pa_cons (pv 3) (pa_cons (pe_lst (pa_cons (pe_xfv (pv 3)) pa_nil)) (pa_cons (pe_lst (pa_cons (pv 0) pa_nil)) pa_nil)))) pa_nil)))
      (pss_one (ps_ret (pv 2)))))))))))))))))), ?_⟩
    walk_at "ss"
    refine mkv1 fun a1 d1 H1 na1 nd1 e1 g1 => ?_
    walk_at "ss"
    refine mkv1 fun a2 d2 H2 na2 nd2 e2 g2 => ?_
    walk_at "ss"
    refine mkv1 fun a3 d3 H3 na3 nd3 e3 g3 => ?_
    walk_at "ss"
    refine mkv1 fun a4 d4 H4 na4 nd4 e4 g4 => ?_
    walk_at "ss"
    refine mkv1 fun a5 d5 H5 na5 nd5 e5 g5 => ?_
    walk_at "ss"
    refine mkv1 fun a6 d6 H6 na6 nd6 e6 g6 => ?_
    walk_at "ss"
    refine mkv1 fun a7 d7 H7 na7 nd7 e7 g7 => ?_
    walk_at "ss"
    refine newL fun p8 H8 hp8 e8 g8 => ?_
    walk_at "ss"
    refine mkv1 fun a9 d9 H9 na9 nd9 e9 g9 => ?_
    walk_at "ss"
    refine mkv1 fun a10 d10 H10 na10 nd10 e10 g10 => ?_
    walk_at "ss"
    refine mkv1 fun a11 d11 H11 na11 nd11 e11 g11 => ?_
    walk_at "ss"
    refine newL fun p12 H12 hp12 e12 g12 => ?_
    refine c_cat (((e9.trans e10).trans (e11.trans e12)) _ _ g8) g12 fun p13 H13 hp13 e13 g13 => ?_
    walk_at "ss"
    refine ⟨⟨_, SqL.of g13⟩, ?_⟩
    have E1 : Ex H H1 := e1
    have E2 : Ex H H2 := E1.trans e2
    have E3 : Ex H H3 := E2.trans e3
    have E4 : Ex H H4 := E3.trans e4
    have E5 : Ex H H5 := E4.trans e5
    have E6 : Ex H H6 := E5.trans e6
    have E7 : Ex H H7 := E6.trans e7
    have E8 : Ex H H8 := E7.trans e8
    have E9 : Ex H H9 := E8.trans e9
    have E10 : Ex H H10 := E9.trans e10
    have E11 : Ex H H11 := E10.trans e11
    have E12 : Ex H H12 := E11.trans e12
    have E13 : Ex H H13 := E12.trans e13
    have U12 : Ex H12 H13 := e13
    have U11 : Ex H11 H13 := e12.trans U12
    have U10 : Ex H10 H13 := e11.trans U11
    have U9 : Ex H9 H13 := e10.trans U10
    have U8 : Ex H8 H13 := e9.trans U9
    have U7 : Ex H7 H13 := e8.trans U8
    have U6 : Ex H6 H13 := e7.trans U7
    have U5 : Ex H5 H13 := e6.trans U6
    have U4 : Ex H4 H13 := e5.trans U5
    have U3 : Ex H3 H13 := e4.trans U4
    have U2 : Ex H2 H13 := e3.trans U3
    have U1 : Ex H1 H13 := e2.trans U2
    have L1 : Erl (fun z => H z = none) H13 "found" v ([.ref a1, .ref a2, .ref a3, .ref a4, .ref a5, .ref a6, .ref a7] ++ [.ref a9, .ref a10, .ref a11]) [Z.c_NoNumber, Z.c_NoValue, Z.c_NoName, Z.c_NoTerm, Z.c_NoEquation, Z.c_NoNode, Z.c_NoProgram, Z.c_NoBeats, Z.c_NoCells, Z.c_NoOrder] := (.cons (g1.up U1) na1 nd1 (.cons (g2.up U2) (ex_back E1 na2) (ex_back E1 nd2) (.cons (g3.up U3) (ex_back E2 na3) (ex_back E2 nd3) (.cons (g4.up U4) (ex_back E3 na4) (ex_back E3 nd4) (.cons (g5.up U5) (ex_back E4 na5) (ex_back E4 nd5) (.cons (g6.up U6) (ex_back E5 na6) (ex_back E5 nd6) (.cons (g7.up U7) (ex_back E6 na7) (ex_back E6 nd7) (.cons (g9.up U9) (ex_back E8 na9) (ex_back E8 nd9) (.cons (g10.up U10) (ex_back E9 na10) (ex_back E9 nd10) (.cons (g11.up U11) (ex_back E10 na11) (ex_back E10 nd11) .nil))))))))))
    have X1 : ∀ C ∈ [Z.c_NoNumber, Z.c_NoValue, Z.c_NoName, Z.c_NoTerm, Z.c_NoEquation, Z.c_NoNode, Z.c_NoProgram, Z.c_NoBeats, Z.c_NoCells, Z.c_NoOrder], XfC K C ∧ PySem.W.findIn K (.ref C) "found" = some none := by
      intro C hC
      simp only [List.mem_cons, List.not_mem_nil, or_false] at hC
      rcases hC with rfl | rfl | rfl | rfl | rfl | rfl | rfl | rfl | rfl | rfl
      · exact tOk1 T.x_NoNumber List.mem_cons_self
      · exact tOk1 T.x_NoValue List.mem_cons_self
      · exact tOk1 T.x_NoName List.mem_cons_self
      · exact tOk1 T.x_NoTerm List.mem_cons_self
      · exact tOk1 T.x_NoEquation List.mem_cons_self
      · exact tOk1 T.x_NoNode List.mem_cons_self
      · exact tOk1 T.x_NoProgram List.mem_cons_self
      · exact tOk1 T.x_NoBeats List.mem_cons_self
      · exact tOk1 T.x_NoCells List.mem_cons_self
      · exact tOk1 T.x_NoOrder List.mem_cons_self
    refine lcLP (fun D i y G => ∀ C, [Z.c_NoNumber, Z.c_NoValue, Z.c_NoName, Z.c_NoTerm, Z.c_NoEquation, Z.c_NoNode, Z.c_NoProgram, Z.c_NoBeats, Z.c_NoCells, Z.c_NoOrder][i]? = some C → PrA (fun z => H z = none ∧ z ≠ D) G [v] y C) (fun D i y G G2 eG hP C hC => (hP C hC).up fun a o na ha => eG a o na.2 ha) (SqL.of g13) (by show 10 ≤ 1000; omega) (fun D i x hD hi G1 f1 hGD R N hR => ?_) (fun y14 p14 H14 hl14 hP14 hp14 e14 g14 => ?_)
    · obtain ⟨oD, hGD⟩ := hGD
      have hil := (List.getElem?_eq_some_iff.mp hi).1
      rw [L1.1] at hil
      have hC := List.getElem?_eq_getElem hil
      generalize hCe : ([Z.c_NoNumber, Z.c_NoValue, Z.c_NoName, Z.c_NoTerm, Z.c_NoEquation, Z.c_NoNode, Z.c_NoProgram, Z.c_NoBeats, Z.c_NoCells, Z.c_NoOrder][i]'hil) = C at hC
      obtain ⟨a, d, rfl, er, na, nd⟩ := L1.2 i x C hi hC
      obtain ⟨xf, nof⟩ := X1 C (List.mem_of_getElem? hC)
      have er1 := er.up f1
      have nn : ∀ {z : Addr} {G : Hp}, Ex G1 G → G z = none → H z = none ∧ z ≠ D := fun eG hz => ⟨ex_back ((E13.trans f1).trans eG) hz, (ne_of_none (eG _ _ hGD) hz).symm⟩
      have na2 : a ≠ D := ne_of_none er.1 hD
      have nd2 : d ≠ D := ne_of_none er.2 hD
      walk_at "ss"
      refine ⟨a, C, d, _, v, rfl, xf, nof, er1.1, er1.2, lk1, ?_⟩
      walk_at "ss"
      refine newL fun q1 G2 hq1 f2 m1 => ?_
      walk_at "ss"
      refine newL fun q2 G3 hq2 f3 m2 => ?_
      walk_at "ss"
      refine newT fun q3 G4 hq3 f4 m3 => ?_
      refine hR _ _ ((f2.trans f3).trans f4) fun C' hC' => ?_
      obtain rfl : C = C' := Option.some.inj (hC.symm.trans hC')
      exact ⟨q3, a, d, q1, q2, _, rfl, m3, er1.up ((f2.trans f3).trans f4), (f3.trans f4) _ _ m1, f4 _ _ m2, nn (f2.trans f3) hq3, ⟨na, na2⟩, ⟨nd, nd2⟩, nn (Ex.refl _) hq1, nn f2 hq2⟩
    have E14 : Ex H H14 := E13.trans e14
    walk_at "ss"
    refine mkv1 fun a15 d15 H15 na15 nd15 e15 g15 => ?_
    walk_at "ss"
    refine mkv1 fun a16 d16 H16 na16 nd16 e16 g16 => ?_
    walk_at "ss"
    refine mkv1 fun a17 d17 H17 na17 nd17 e17 g17 => ?_
    walk_at "ss"
    refine mkv1 fun a18 d18 H18 na18 nd18 e18 g18 => ?_
    walk_at "ss"
    refine mkv1 fun a19 d19 H19 na19 nd19 e19 g19 => ?_
    walk_at "ss"
    refine newL fun p20 H20 hp20 e20 g20 => ?_
    walk_at "ss"
    refine ⟨⟨_, SqL.of g20⟩, ?_⟩
    have E15 : Ex H H15 := E14.trans e15
    have E16 : Ex H H16 := E15.trans e16
    have E17 : Ex H H17 := E16.trans e17
    have E18 : Ex H H18 := E17.trans e18
    have E19 : Ex H H19 := E18.trans e19
    have E20 : Ex H H20 := E19.trans e20
    have U19 : Ex H19 H20 := e20
    have U18 : Ex H18 H20 := e19.trans U19
    have U17 : Ex H17 H20 := e18.trans U18
    have U16 : Ex H16 H20 := e17.trans U17
    have U15 : Ex H15 H20 := e16.trans U16
    have U14 : Ex H14 H20 := e15.trans U15
    have L2 : Erl (fun z => H z = none) H20 "name" v [.ref a15, .ref a16, .ref a17, .ref a18, .ref a19] [Z.c_Twice, Z.c_Unknown, Z.c_NoOut, Z.c_NoRead, Z.c_NoClock] := (.cons (g15.up U15) (ex_back E14 na15) (ex_back E14 nd15) (.cons (g16.up U16) (ex_back E15 na16) (ex_back E15 nd16) (.cons (g17.up U17) (ex_back E16 na17) (ex_back E16 nd17) (.cons (g18.up U18) (ex_back E17 na18) (ex_back E17 nd18) (.cons (g19.up U19) (ex_back E18 na19) (ex_back E18 nd19) .nil)))))
    have X2 : ∀ C ∈ [Z.c_Twice, Z.c_Unknown, Z.c_NoOut, Z.c_NoRead, Z.c_NoClock], XfC K C ∧ PySem.W.findIn K (.ref C) "name" = some none := by
      intro C hC
      simp only [List.mem_cons, List.not_mem_nil, or_false] at hC
      rcases hC with rfl | rfl | rfl | rfl | rfl
      · exact tOk1 T.x_Twice List.mem_cons_self
      · exact tOk1 T.x_Unknown List.mem_cons_self
      · exact tOk1 T.x_NoOut List.mem_cons_self
      · exact tOk1 T.x_NoRead List.mem_cons_self
      · exact tOk1 T.x_NoClock List.mem_cons_self
    refine lcLP (fun D i y G => ∀ C, [Z.c_Twice, Z.c_Unknown, Z.c_NoOut, Z.c_NoRead, Z.c_NoClock][i]? = some C → PrA (fun z => H z = none ∧ z ≠ D) G [v] y C) (fun D i y G G2 eG hP C hC => (hP C hC).up fun a o na ha => eG a o na.2 ha) (SqL.of g20) (by show 5 ≤ 1000; omega) (fun D i x hD hi G1 f1 hGD R N hR => ?_) (fun y21 p21 H21 hl21 hP21 hp21 e21 g21 => ?_)
    · obtain ⟨oD, hGD⟩ := hGD
      have hil := (List.getElem?_eq_some_iff.mp hi).1
      rw [L2.1] at hil
      have hC := List.getElem?_eq_getElem hil
      generalize hCe : ([Z.c_Twice, Z.c_Unknown, Z.c_NoOut, Z.c_NoRead, Z.c_NoClock][i]'hil) = C at hC
      obtain ⟨a, d, rfl, er, na, nd⟩ := L2.2 i x C hi hC
      obtain ⟨xf, nof⟩ := X2 C (List.mem_of_getElem? hC)
      have er1 := er.up f1
      have nn : ∀ {z : Addr} {G : Hp}, Ex G1 G → G z = none → H z = none ∧ z ≠ D := fun eG hz => ⟨ex_back ((E20.trans f1).trans eG) hz, (ne_of_none (eG _ _ hGD) hz).symm⟩
      have na2 : a ≠ D := ne_of_none er.1 hD
      have nd2 : d ≠ D := ne_of_none er.2 hD
      walk_at "ss"
      refine ⟨a, C, d, _, v, rfl, xf, nof, er1.1, er1.2, lk1, ?_⟩
      walk_at "ss"
      refine newL fun q1 G2 hq1 f2 m1 => ?_
      walk_at "ss"
      refine newL fun q2 G3 hq2 f3 m2 => ?_
      walk_at "ss"
      refine newT fun q3 G4 hq3 f4 m3 => ?_
      refine hR _ _ ((f2.trans f3).trans f4) fun C' hC' => ?_
      obtain rfl : C = C' := Option.some.inj (hC.symm.trans hC')
      exact ⟨q3, a, d, q1, q2, _, rfl, m3, er1.up ((f2.trans f3).trans f4), (f3.trans f4) _ _ m1, f4 _ _ m2, nn (f2.trans f3) hq3, ⟨na, na2⟩, ⟨nd, nd2⟩, nn (Ex.refl _) hq1, nn f2 hq2⟩
    have E21 : Ex H H21 := E20.trans e21
    have ly1 : y14.length = 10 := hl14
    have ly2 : y21.length = 5 := hl21
    refine c_cat ((U14.trans e21) _ _ g14) g21 (fun p22 H22 hp22 e22 g22 => ?_) (by omega)
    walk_at "ss"
    have E22 : Ex H H22 := E21.trans e22
    have P0 : Prl (fun z => H z = none ∧ z ≠ p22) H22 [v] (y14 ++ y21) ([Z.c_NoNumber, Z.c_NoValue, Z.c_NoName, Z.c_NoTerm, Z.c_NoEquation, Z.c_NoNode, Z.c_NoProgram, Z.c_NoBeats, Z.c_NoCells, Z.c_NoOrder] ++ [Z.c_Twice, Z.c_Unknown, Z.c_NoOut, Z.c_NoRead, Z.c_NoClock]) := by
      have n14 : ∀ a o, H14 a = some o → a ≠ p22 := fun a o ha => ne_of_none ((U14.trans e21) _ _ ha) hp22
      have n21 : ∀ a o, H21 a = some o → a ≠ p22 := fun a o ha => ne_of_none ha hp22
      refine Prl.app ?_ ?_
      · exact Prl.up (H := H14) (Prl.imp (N := fun z => H z = none ∧ z ≠ p14) ⟨hl14, fun i t C h1 h2 => hP14 i t h1 C h2⟩ fun a o na ha => ⟨na.1, n14 a o ha⟩) fun a o _ ha => ((U14.trans e21).trans e22) _ _ ha
      · exact Prl.up (H := H21) (Prl.imp (N := fun z => H z = none ∧ z ≠ p21) ⟨hl21, fun i t C h1 h2 => hP21 i t h1 C h2⟩ fun a o na ha => ⟨na.1, n21 a o ha⟩) fun a o _ ha => e22 _ _ ha
    have hl0 : H p22 = none := ex_back E21 hp22
    have X0 : ExB p22 H H22 := ExB.of E22
    have ln0 : (y14 ++ y21).length ≤ 15 := by rw [List.length_append]; omega
    generalize y14 ++ y21 = ts0 at g22 P0 ln0
    have gl0 := g22
    walk_at "ss"
    refine mkv1 fun a1 d1 A1 na1 nd1 f1 r1 => ?_
    walk_at "ss"
    have gl1a := f1 _ _ gl0
    refine ⟨.inl ⟨rfl, _, SqL.of gl1a⟩, ?_⟩
    walk_at "ss"
    refine ⟨a1, _, d1, _, _, rfl, (tOk1 T.x_NoCall (f := "name") (by decide +kernel)).1, (tOk1 T.x_NoCall (f := "name") (by decide +kernel)).2, r1.1, r1.2, lk1, ?_⟩
    walk_at "ss"
    refine newL fun q1 B1 hq1 s1 m1 => ?_
    walk_at "ss"
    refine newL fun u1 D1 hu1 t1 o1 => ?_
    walk_at "ss"
    refine newT fun w1 F1 hw1 x1 z1 => ?_
    walk_at "ss"
    have gl1b := ((s1.trans t1).trans x1) _ _ gl1a
    refine ⟨_, _, _, rfl, rfl, gl1b, Evl.sz_lt (by omega), ?_⟩
    have Xa1 : ExB p22 H A1 := X0.ex f1
    have Xb1 : ExB p22 H B1 := Xa1.ex s1
    have Xd1 : ExB p22 H D1 := Xb1.ex t1
    have P1 := app_pair P0 (((f1.trans s1).trans t1).trans x1) z1 (r1.up ((s1.trans t1).trans x1)) ((t1.trans x1) _ _ m1) (x1 _ _ o1)
      ⟨fr2 (fun a o h1 h2 => Xd1 a o h2 h1) ((s1.trans t1) _ _ gl1a) hl0 hw1, fr2 (fun a o h1 h2 => X0 a o h2 h1) gl0 hl0 na1, fr2 (fun a o h1 h2 => X0 a o h2 h1) gl0 hl0 nd1, fr2 (fun a o h1 h2 => Xa1 a o h2 h1) gl1a hl0 hq1, fr2 (fun a o h1 h2 => Xb1 a o h2 h1) (s1 _ _ gl1a) hl0 hu1⟩
    have X1 : ExB p22 H (upd F1 p22 (.lst (ts0 ++ [.ref w1]))) := fun a o na ha => by
      rw [upd_ne na]
      exact x1 _ _ (Xd1 a o na ha)
    have gl1 : upd F1 p22 (.lst (ts0 ++ [.ref w1])) p22 = some (.lst (ts0 ++ [.ref w1])) := upd_same
    have ln1 : (ts0 ++ [V.ref w1]).length ≤ 16 := by rw [List.length_append, List.length_singleton]; omega
    generalize hK1 : upd F1 p22 (.lst (ts0 ++ [.ref w1])) = K1 at P1 X1 gl1
    generalize ts0 ++ [V.ref w1] = ts1 at P1 gl1 ln1
    walk_at "ss"
    refine mkv1 fun a2 d2 A2 na2 nd2 f2 r2 => ?_
    walk_at "ss"
    have gl2a := f2 _ _ gl1
    refine ⟨.inl ⟨rfl, _, SqL.of gl2a⟩, ?_⟩
    walk_at "ss"
    refine ⟨a2, _, d2, _, _, rfl, (tOk1 T.x_NoText (f := "at") (by decide +kernel)).1, (tOk1 T.x_NoText (f := "at") (by decide +kernel)).2, r2.1, r2.2, lk1, ?_⟩
    walk_at "ss"
    refine newL fun q2 B2 hq2 s2 m2 => ?_
    walk_at "ss"
    refine newL fun u2 D2 hu2 t2 o2 => ?_
    walk_at "ss"
    refine newT fun w2 F2 hw2 x2 z2 => ?_
    walk_at "ss"
    have gl2b := ((s2.trans t2).trans x2) _ _ gl2a
    refine ⟨_, _, _, rfl, rfl, gl2b, Evl.sz_lt (by omega), ?_⟩
    have Xa2 : ExB p22 H A2 := X1.ex f2
    have Xb2 : ExB p22 H B2 := Xa2.ex s2
    have Xd2 : ExB p22 H D2 := Xb2.ex t2
    have P2 := app_pair P1 (((f2.trans s2).trans t2).trans x2) z2 (r2.up ((s2.trans t2).trans x2)) ((t2.trans x2) _ _ m2) (x2 _ _ o2)
      ⟨fr2 (fun a o h1 h2 => Xd2 a o h2 h1) ((s2.trans t2) _ _ gl2a) hl0 hw2, fr2 (fun a o h1 h2 => X1 a o h2 h1) gl1 hl0 na2, fr2 (fun a o h1 h2 => X1 a o h2 h1) gl1 hl0 nd2, fr2 (fun a o h1 h2 => Xa2 a o h2 h1) gl2a hl0 hq2, fr2 (fun a o h1 h2 => Xb2 a o h2 h1) (s2 _ _ gl2a) hl0 hu2⟩
    have X2 : ExB p22 H (upd F2 p22 (.lst (ts1 ++ [.ref w2]))) := fun a o na ha => by
      rw [upd_ne na]
      exact x2 _ _ (Xd2 a o na ha)
    have gl2 : upd F2 p22 (.lst (ts1 ++ [.ref w2])) p22 = some (.lst (ts1 ++ [.ref w2])) := upd_same
    have ln2 : (ts1 ++ [V.ref w2]).length ≤ 17 := by rw [List.length_append, List.length_singleton]; omega
    generalize hK2 : upd F2 p22 (.lst (ts1 ++ [.ref w2])) = K2 at P2 X2 gl2
    generalize ts1 ++ [V.ref w2] = ts2 at P2 gl2 ln2
    walk_at "ss"
    refine mkv1 fun a3 d3 A3 na3 nd3 f3 r3 => ?_
    walk_at "ss"
    have gl3a := f3 _ _ gl2
    refine ⟨.inl ⟨rfl, _, SqL.of gl3a⟩, ?_⟩
    walk_at "ss"
    refine ⟨a3, _, d3, _, _, rfl, (tOk1 T.x_TooMany (f := "many") (by decide +kernel)).1, (tOk1 T.x_TooMany (f := "many") (by decide +kernel)).2, r3.1, r3.2, lk1, ?_⟩
    walk_at "ss"
    refine newL fun q3 B3 hq3 s3 m3 => ?_
    walk_at "ss"
    refine newL fun u3 D3 hu3 t3 o3 => ?_
    walk_at "ss"
    refine newT fun w3 F3 hw3 x3 z3 => ?_
    walk_at "ss"
    have gl3b := ((s3.trans t3).trans x3) _ _ gl3a
    refine ⟨_, _, _, rfl, rfl, gl3b, Evl.sz_lt (by omega), ?_⟩
    have Xa3 : ExB p22 H A3 := X2.ex f3
    have Xb3 : ExB p22 H B3 := Xa3.ex s3
    have Xd3 : ExB p22 H D3 := Xb3.ex t3
    have P3 := app_pair P2 (((f3.trans s3).trans t3).trans x3) z3 (r3.up ((s3.trans t3).trans x3)) ((t3.trans x3) _ _ m3) (x3 _ _ o3)
      ⟨fr2 (fun a o h1 h2 => Xd3 a o h2 h1) ((s3.trans t3) _ _ gl3a) hl0 hw3, fr2 (fun a o h1 h2 => X2 a o h2 h1) gl2 hl0 na3, fr2 (fun a o h1 h2 => X2 a o h2 h1) gl2 hl0 nd3, fr2 (fun a o h1 h2 => Xa3 a o h2 h1) gl3a hl0 hq3, fr2 (fun a o h1 h2 => Xb3 a o h2 h1) (s3 _ _ gl3a) hl0 hu3⟩
    have X3 : ExB p22 H (upd F3 p22 (.lst (ts2 ++ [.ref w3]))) := fun a o na ha => by
      rw [upd_ne na]
      exact x3 _ _ (Xd3 a o na ha)
    have gl3 : upd F3 p22 (.lst (ts2 ++ [.ref w3])) p22 = some (.lst (ts2 ++ [.ref w3])) := upd_same
    have ln3 : (ts2 ++ [V.ref w3]).length ≤ 18 := by rw [List.length_append, List.length_singleton]; omega
    generalize hK3 : upd F3 p22 (.lst (ts2 ++ [.ref w3])) = K3 at P3 X3 gl3
    generalize ts2 ++ [V.ref w3] = ts3 at P3 gl3 ln3
    walk_at "ss"
    refine mkv1 fun a4 d4 A4 na4 nd4 f4 r4 => ?_
    walk_at "ss"
    have gl4a := f4 _ _ gl3
    refine ⟨.inl ⟨rfl, _, SqL.of gl4a⟩, ?_⟩
    walk_at "ss"
    refine ⟨a4, _, d4, _, _, rfl, (tOk1 T.x_NoFit (f := "paper") (by decide +kernel)).1, (tOk1 T.x_NoFit (f := "paper") (by decide +kernel)).2, r4.1, r4.2, lk1, ?_⟩
    walk_at "ss"
    refine newL fun q4 B4 hq4 s4 m4 => ?_
    walk_at "ss"
    refine newL fun u4 D4 hu4 t4 o4 => ?_
    walk_at "ss"
    refine newT fun w4 F4 hw4 x4 z4 => ?_
    walk_at "ss"
    have gl4b := ((s4.trans t4).trans x4) _ _ gl4a
    refine ⟨_, _, _, rfl, rfl, gl4b, Evl.sz_lt (by omega), ?_⟩
    have Xa4 : ExB p22 H A4 := X3.ex f4
    have Xb4 : ExB p22 H B4 := Xa4.ex s4
    have Xd4 : ExB p22 H D4 := Xb4.ex t4
    have P4 := app_pair P3 (((f4.trans s4).trans t4).trans x4) z4 (r4.up ((s4.trans t4).trans x4)) ((t4.trans x4) _ _ m4) (x4 _ _ o4)
      ⟨fr2 (fun a o h1 h2 => Xd4 a o h2 h1) ((s4.trans t4) _ _ gl4a) hl0 hw4, fr2 (fun a o h1 h2 => X3 a o h2 h1) gl3 hl0 na4, fr2 (fun a o h1 h2 => X3 a o h2 h1) gl3 hl0 nd4, fr2 (fun a o h1 h2 => Xa4 a o h2 h1) gl4a hl0 hq4, fr2 (fun a o h1 h2 => Xb4 a o h2 h1) (s4 _ _ gl4a) hl0 hu4⟩
    have X4 : ExB p22 H (upd F4 p22 (.lst (ts3 ++ [.ref w4]))) := fun a o na ha => by
      rw [upd_ne na]
      exact x4 _ _ (Xd4 a o na ha)
    have gl4 : upd F4 p22 (.lst (ts3 ++ [.ref w4])) p22 = some (.lst (ts3 ++ [.ref w4])) := upd_same
    have ln4 : (ts3 ++ [V.ref w4]).length ≤ 19 := by rw [List.length_append, List.length_singleton]; omega
    generalize hK4 : upd F4 p22 (.lst (ts3 ++ [.ref w4])) = K4 at P4 X4 gl4
    generalize ts3 ++ [V.ref w4] = ts4 at P4 gl4 ln4
    walk_at "ss"
    refine mkv1 fun a5 d5 A5 na5 nd5 f5 r5 => ?_
    walk_at "ss"
    have gl5a := f5 _ _ gl4
    refine ⟨.inl ⟨rfl, _, SqL.of gl5a⟩, ?_⟩
    walk_at "ss"
    refine ⟨a5, _, d5, _, _, rfl, (tOk1 T.x_Ring (f := "paper") (by decide +kernel)).1, (tOk1 T.x_Ring (f := "paper") (by decide +kernel)).2, r5.1, r5.2, lk1, ?_⟩
    walk_at "ss"
    refine newL fun q5 B5 hq5 s5 m5 => ?_
    walk_at "ss"
    refine newL fun u5 D5 hu5 t5 o5 => ?_
    walk_at "ss"
    refine newT fun w5 F5 hw5 x5 z5 => ?_
    walk_at "ss"
    have gl5b := ((s5.trans t5).trans x5) _ _ gl5a
    refine ⟨_, _, _, rfl, rfl, gl5b, Evl.sz_lt (by omega), ?_⟩
    have Xa5 : ExB p22 H A5 := X4.ex f5
    have Xb5 : ExB p22 H B5 := Xa5.ex s5
    have Xd5 : ExB p22 H D5 := Xb5.ex t5
    have P5 := app_pair P4 (((f5.trans s5).trans t5).trans x5) z5 (r5.up ((s5.trans t5).trans x5)) ((t5.trans x5) _ _ m5) (x5 _ _ o5)
      ⟨fr2 (fun a o h1 h2 => Xd5 a o h2 h1) ((s5.trans t5) _ _ gl5a) hl0 hw5, fr2 (fun a o h1 h2 => X4 a o h2 h1) gl4 hl0 na5, fr2 (fun a o h1 h2 => X4 a o h2 h1) gl4 hl0 nd5, fr2 (fun a o h1 h2 => Xa5 a o h2 h1) gl5a hl0 hq5, fr2 (fun a o h1 h2 => Xb5 a o h2 h1) (s5 _ _ gl5a) hl0 hu5⟩
    have X5 : ExB p22 H (upd F5 p22 (.lst (ts4 ++ [.ref w5]))) := fun a o na ha => by
      rw [upd_ne na]
      exact x5 _ _ (Xd5 a o na ha)
    have gl5 : upd F5 p22 (.lst (ts4 ++ [.ref w5])) p22 = some (.lst (ts4 ++ [.ref w5])) := upd_same
    have ln5 : (ts4 ++ [V.ref w5]).length ≤ 20 := by rw [List.length_append, List.length_singleton]; omega
    generalize hK5 : upd F5 p22 (.lst (ts4 ++ [.ref w5])) = K5 at P5 X5 gl5
    generalize ts4 ++ [V.ref w5] = ts5 at P5 gl5 ln5
    walk_at "ss"
    refine mkv1 fun a6 d6 A6 na6 nd6 f6 r6 => ?_
    walk_at "ss"
    have gl6a := f6 _ _ gl5
    refine ⟨.inl ⟨rfl, _, SqL.of gl6a⟩, ?_⟩
    walk_at "ss"
    refine ⟨a6, _, d6, _, _, rfl, (tOk1 T.x_NoLine (f := "line") (by decide +kernel)).1, (tOk1 T.x_NoLine (f := "line") (by decide +kernel)).2, r6.1, r6.2, lk1, ?_⟩
    walk_at "ss"
    refine newL fun q6 B6 hq6 s6 m6 => ?_
    walk_at "ss"
    refine newL fun u6 D6 hu6 t6 o6 => ?_
    walk_at "ss"
    refine newT fun w6 F6 hw6 x6 z6 => ?_
    walk_at "ss"
    have gl6b := ((s6.trans t6).trans x6) _ _ gl6a
    refine ⟨_, _, _, rfl, rfl, gl6b, Evl.sz_lt (by omega), ?_⟩
    have Xa6 : ExB p22 H A6 := X5.ex f6
    have Xb6 : ExB p22 H B6 := Xa6.ex s6
    have Xd6 : ExB p22 H D6 := Xb6.ex t6
    have P6 := app_pair P5 (((f6.trans s6).trans t6).trans x6) z6 (r6.up ((s6.trans t6).trans x6)) ((t6.trans x6) _ _ m6) (x6 _ _ o6)
      ⟨fr2 (fun a o h1 h2 => Xd6 a o h2 h1) ((s6.trans t6) _ _ gl6a) hl0 hw6, fr2 (fun a o h1 h2 => X5 a o h2 h1) gl5 hl0 na6, fr2 (fun a o h1 h2 => X5 a o h2 h1) gl5 hl0 nd6, fr2 (fun a o h1 h2 => Xa6 a o h2 h1) gl6a hl0 hq6, fr2 (fun a o h1 h2 => Xb6 a o h2 h1) (s6 _ _ gl6a) hl0 hu6⟩
    have X6 : ExB p22 H (upd F6 p22 (.lst (ts5 ++ [.ref w6]))) := fun a o na ha => by
      rw [upd_ne na]
      exact x6 _ _ (Xd6 a o na ha)
    have gl6 : upd F6 p22 (.lst (ts5 ++ [.ref w6])) p22 = some (.lst (ts5 ++ [.ref w6])) := upd_same
    have ln6 : (ts5 ++ [V.ref w6]).length ≤ 21 := by rw [List.length_append, List.length_singleton]; omega
    generalize hK6 : upd F6 p22 (.lst (ts5 ++ [.ref w6])) = K6 at P6 X6 gl6
    generalize ts5 ++ [V.ref w6] = ts6 at P6 gl6 ln6
    walk_at "ss"
    refine k ts6 p22 K6 hl0 (fun a o ha => X6 a o (ne_of_none ha hl0) ha) gl6 (P6.imp fun a o na _ => na.1)
theorem lk2a {f g : Str} {v u : V} : ([(g, u), (f, v)] : List (Str × V)).lookup g = some u := by simp [List.lookup]

/-! ### two fields -/
theorem lk2b {f g : Str} {v u : V} (h : f ≠ g) : ([(g, u), (f, v)] : List (Str × V)).lookup f = some v := by
  have e : (f == g) = false := by simpa using h
  simp [List.lookup, e]
theorem Prl.nil {N : Addr → Prop} {H : Hp} {vs : List V} : Prl N H vs [] [] := ⟨rfl, fun i t C h _ => by simp at h⟩
theorem ok_twos_l (T : Txt K mg Z) : FnOk P w K mg base CX0 3 Z.f_twos_l Z.fd_twos_l ["_law_one", "_law_other"] (sp_twos_l Z) := by
  have G_Hidden_init := ok_Hidden_init (P := P) (w := w) (base := base) T
  have G_NoArgs_init := ok_NoArgs_init (P := P) (w := w) (base := base) T
  have G_NoInput_init := ok_NoInput_init (P := P) (w := w) (base := base) T
  have G_NotYet_init := ok_NotYet_init (P := P) (w := w) (base := base) T
  refine T.F_twos_l.ok sc_twos_l (fun vs H Q E h => ?_) (fun cdv AA outer s H vs Q E hr h => ?_)
  · obtain ⟨v, u, rfl, _⟩ := h
    rfl
  · obtain ⟨v, u, rfl, k⟩ := h
    refine ⟨_, (pss_cons (ps_set (i := 2) sc_twos_l.nd rfl (Or.inl rfl) (pe_lst pa_nil))
      (pss_cons (ps_set (i := 3) sc_twos_l.nd rfl (Or.inl rfl) (pe_mkv (exB_ok T.x_Hidden).ox T.i_Hidden T.y_Hidden G_Hidden_init (hr.mono (by decide)) T.b_Hidden_init pass0 rfl T.m_Hidden (pa_cons (pv 0) (pa_cons (pv 1) pa_nil))))
      (pss_cons (ps_expr (pe_bm PySem.F.plainAttrs_list PySem.F.slot_list_append PySem.F.type_list_append mt_append (pv 2) (pa_cons (pe_tup (pa_cons (pv 3) (pa_cons (pe_lst (pa_cons (pe_xfv (pv 3)) (pa_cons (pe_xfv (pv 3)) pa_nil))) (pa_cons (pe_lst (pa_cons (pv 0) (pa_cons (pv 1) pa_nil))) pa_nil)))) pa_nil)))
      (pss_cons (ps_set (i := 3) sc_twos_l.nd rfl (Or.inl rfl) (pe_mkv (exB_ok T.x_NoArgs).ox T.i_NoArgs T.y_NoArgs G_NoArgs_init (hr.mono (by decide)) T.b_NoArgs_init pass0 rfl T.m_NoArgs (pa_cons (pv 0) (pa_cons (pv 1) pa_nil))))
      (pss_cons (ps_expr (pe_bm PySem.F.plainAttrs_list PySem.F.slot_list_append PySem.F.type_list_append mt_append (pv 2) (pa_cons (pe_tup (pa_cons (pv 3) (pa_cons (pe_lst (pa_cons (pe_xfv (pv 3)) (pa_cons (pe_xfv (pv 3)) pa_nil))) (pa_cons (pe_lst (pa_cons (pv 0) (pa_cons (pv 1) pa_nil))) pa_nil)))) pa_nil)))
      (pss_cons (ps_set (i := 3) sc_twos_l.nd rfl (Or.inl rfl) (pe_mkv (exB_ok T.x_NoInput).ox T.i_NoInput T.y_NoInput G_NoInput_init (hr.mono (by decide)) T.b_NoInput_init pass0 rfl T.m_NoInput (pa_cons (pv 0) (pa_cons (pv 1) pa_nil))))
      (pss_cons (ps_expr (pe_bm PySem.F.plainAttrs_list PySem.F.slot_list_append PySem.F.type_list_append mt_append (pv 2) (pa_cons (pe_tup (pa_cons (pv 3) (pa_cons (pe_lst (pa_cons (pe_xfv (pv 3)) (pa_cons (pe_xfv (pv 3)) pa_nil))) (pa_cons (pe_lst (pa_cons (pv 0) (pa_cons (pv 1) pa_nil))) pa_nil)))) pa_nil)))
      (pss_cons (ps_set (i := 3) sc_twos_l.nd rfl (Or.inl rfl) (pe_mkv (exB_ok T.x_NotYet).ox T.i_NotYet T.y_NotYet G_NotYet_init (hr.mono (by decide)) T.b_NotYet_init pass0 rfl T.m_NotYet (pa_cons (pv 0) (pa_cons (pv 1) pa_nil))))
      (pss_cons (ps_expr (pe_bm PySem.F.plainAttrs_list PySem.F.slot_list_append PySem.F.type_list_append mt_append (pv 2) (pa_cons (pe_tup (pa_cons (pv 3) (pa_cons (pe_lst (pa_cons (pe_xfv (pv 3)) (pa_cons (pe_xfv (pv 3)) pa_nil))) (pa_cons (pe_lst (pa_cons (pv 0) (pa_cons (pv 1) pa_nil))) pa_nil)))) pa_nil)))
      (pss_one (ps_ret (pv 2)))))))))))), ?_⟩
    walk_at "ss"
    refine newL fun p22 H22 hl0 e22 gl0 => ?_
    have X0 : ExB p22 H H22 := ExB.of e22
    obtain ⟨ts0, gl0, P0, ln0⟩ : ∃ ts0 : List V, H22 p22 = some (.lst ts0) ∧ Prl (fun z => H z = none ∧ z ≠ p22) H22 [v, u] ts0 [] ∧ ts0.length ≤ 0 := ⟨[], gl0, Prl.nil, Nat.le_refl _⟩
    walk_at "ss"
    refine mkv2 fun a1 d1 A1 na1 nd1 f1 r1 => ?_
    walk_at "ss"
    have gl1a := f1 _ _ gl0
    refine ⟨.inl ⟨rfl, _, SqL.of gl1a⟩, ?_⟩
    walk_at "ss"
    refine ⟨a1, _, d1, _, _, rfl, (tOk1 T.x_Hidden (f := "name") (by decide +kernel)).1, (tOk1 T.x_Hidden (f := "name") (by decide +kernel)).2, r1.1, r1.2, (lk2b (by decide +kernel)), ?_⟩
    walk_at "ss"
    refine ⟨a1, _, d1, _, _, rfl, (tOk1 T.x_Hidden (f := "other") (by decide +kernel)).1, (tOk1 T.x_Hidden (f := "other") (by decide +kernel)).2, r1.1, r1.2, lk2a, ?_⟩
    walk_at "ss"
    refine newL fun q1 B1 hq1 s1 m1 => ?_
    walk_at "ss"
    refine newL fun u1 D1 hu1 t1 o1 => ?_
    walk_at "ss"
    refine newT fun w1 F1 hw1 x1 z1 => ?_
    walk_at "ss"
    have gl1b := ((s1.trans t1).trans x1) _ _ gl1a
    refine ⟨_, _, _, rfl, rfl, gl1b, Evl.sz_lt (by omega), ?_⟩
    have Xa1 : ExB p22 H A1 := X0.ex f1
    have Xb1 : ExB p22 H B1 := Xa1.ex s1
    have Xd1 : ExB p22 H D1 := Xb1.ex t1
    have P1 := app_pair P0 (((f1.trans s1).trans t1).trans x1) z1 (r1.up ((s1.trans t1).trans x1)) ((t1.trans x1) _ _ m1) (x1 _ _ o1)
      ⟨fr2 (fun a o h1 h2 => Xd1 a o h2 h1) ((s1.trans t1) _ _ gl1a) hl0 hw1, fr2 (fun a o h1 h2 => X0 a o h2 h1) gl0 hl0 na1, fr2 (fun a o h1 h2 => X0 a o h2 h1) gl0 hl0 nd1, fr2 (fun a o h1 h2 => Xa1 a o h2 h1) gl1a hl0 hq1, fr2 (fun a o h1 h2 => Xb1 a o h2 h1) (s1 _ _ gl1a) hl0 hu1⟩
    have X1 : ExB p22 H (upd F1 p22 (.lst (ts0 ++ [.ref w1]))) := fun a o na ha => by
      rw [upd_ne na]
      exact x1 _ _ (Xd1 a o na ha)
    have gl1 : upd F1 p22 (.lst (ts0 ++ [.ref w1])) p22 = some (.lst (ts0 ++ [.ref w1])) := upd_same
    have ln1 : (ts0 ++ [V.ref w1]).length ≤ 1 := by rw [List.length_append, List.length_singleton]; omega
    generalize hK1 : upd F1 p22 (.lst (ts0 ++ [.ref w1])) = K1 at P1 X1 gl1
    generalize ts0 ++ [V.ref w1] = ts1 at P1 gl1 ln1
    walk_at "ss"
    refine mkv2 fun a2 d2 A2 na2 nd2 f2 r2 => ?_
    walk_at "ss"
    have gl2a := f2 _ _ gl1
    refine ⟨.inl ⟨rfl, _, SqL.of gl2a⟩, ?_⟩
    walk_at "ss"
    refine ⟨a2, _, d2, _, _, rfl, (tOk1 T.x_NoArgs (f := "name") (by decide +kernel)).1, (tOk1 T.x_NoArgs (f := "name") (by decide +kernel)).2, r2.1, r2.2, (lk2b (by decide +kernel)), ?_⟩
    walk_at "ss"
    refine ⟨a2, _, d2, _, _, rfl, (tOk1 T.x_NoArgs (f := "many") (by decide +kernel)).1, (tOk1 T.x_NoArgs (f := "many") (by decide +kernel)).2, r2.1, r2.2, lk2a, ?_⟩
    walk_at "ss"
    refine newL fun q2 B2 hq2 s2 m2 => ?_
    walk_at "ss"
    refine newL fun u2 D2 hu2 t2 o2 => ?_
    walk_at "ss"
    refine newT fun w2 F2 hw2 x2 z2 => ?_
    walk_at "ss"
    have gl2b := ((s2.trans t2).trans x2) _ _ gl2a
    refine ⟨_, _, _, rfl, rfl, gl2b, Evl.sz_lt (by omega), ?_⟩
    have Xa2 : ExB p22 H A2 := X1.ex f2
    have Xb2 : ExB p22 H B2 := Xa2.ex s2
    have Xd2 : ExB p22 H D2 := Xb2.ex t2
    have P2 := app_pair P1 (((f2.trans s2).trans t2).trans x2) z2 (r2.up ((s2.trans t2).trans x2)) ((t2.trans x2) _ _ m2) (x2 _ _ o2)
      ⟨fr2 (fun a o h1 h2 => Xd2 a o h2 h1) ((s2.trans t2) _ _ gl2a) hl0 hw2, fr2 (fun a o h1 h2 => X1 a o h2 h1) gl1 hl0 na2, fr2 (fun a o h1 h2 => X1 a o h2 h1) gl1 hl0 nd2, fr2 (fun a o h1 h2 => Xa2 a o h2 h1) gl2a hl0 hq2, fr2 (fun a o h1 h2 => Xb2 a o h2 h1) (s2 _ _ gl2a) hl0 hu2⟩
    have X2 : ExB p22 H (upd F2 p22 (.lst (ts1 ++ [.ref w2]))) := fun a o na ha => by
      rw [upd_ne na]
      exact x2 _ _ (Xd2 a o na ha)
    have gl2 : upd F2 p22 (.lst (ts1 ++ [.ref w2])) p22 = some (.lst (ts1 ++ [.ref w2])) := upd_same
    have ln2 : (ts1 ++ [V.ref w2]).length ≤ 2 := by rw [List.length_append, List.length_singleton]; omega
    generalize hK2 : upd F2 p22 (.lst (ts1 ++ [.ref w2])) = K2 at P2 X2 gl2
    generalize ts1 ++ [V.ref w2] = ts2 at P2 gl2 ln2
    walk_at "ss"
    refine mkv2 fun a3 d3 A3 na3 nd3 f3 r3 => ?_
    walk_at "ss"
    have gl3a := f3 _ _ gl2
    refine ⟨.inl ⟨rfl, _, SqL.of gl3a⟩, ?_⟩
    walk_at "ss"
    refine ⟨a3, _, d3, _, _, rfl, (tOk1 T.x_NoInput (f := "name") (by decide +kernel)).1, (tOk1 T.x_NoInput (f := "name") (by decide +kernel)).2, r3.1, r3.2, (lk2b (by decide +kernel)), ?_⟩
    walk_at "ss"
    refine ⟨a3, _, d3, _, _, rfl, (tOk1 T.x_NoInput (f := "beat") (by decide +kernel)).1, (tOk1 T.x_NoInput (f := "beat") (by decide +kernel)).2, r3.1, r3.2, lk2a, ?_⟩
    walk_at "ss"
    refine newL fun q3 B3 hq3 s3 m3 => ?_
    walk_at "ss"
    refine newL fun u3 D3 hu3 t3 o3 => ?_
    walk_at "ss"
    refine newT fun w3 F3 hw3 x3 z3 => ?_
    walk_at "ss"
    have gl3b := ((s3.trans t3).trans x3) _ _ gl3a
    refine ⟨_, _, _, rfl, rfl, gl3b, Evl.sz_lt (by omega), ?_⟩
    have Xa3 : ExB p22 H A3 := X2.ex f3
    have Xb3 : ExB p22 H B3 := Xa3.ex s3
    have Xd3 : ExB p22 H D3 := Xb3.ex t3
    have P3 := app_pair P2 (((f3.trans s3).trans t3).trans x3) z3 (r3.up ((s3.trans t3).trans x3)) ((t3.trans x3) _ _ m3) (x3 _ _ o3)
      ⟨fr2 (fun a o h1 h2 => Xd3 a o h2 h1) ((s3.trans t3) _ _ gl3a) hl0 hw3, fr2 (fun a o h1 h2 => X2 a o h2 h1) gl2 hl0 na3, fr2 (fun a o h1 h2 => X2 a o h2 h1) gl2 hl0 nd3, fr2 (fun a o h1 h2 => Xa3 a o h2 h1) gl3a hl0 hq3, fr2 (fun a o h1 h2 => Xb3 a o h2 h1) (s3 _ _ gl3a) hl0 hu3⟩
    have X3 : ExB p22 H (upd F3 p22 (.lst (ts2 ++ [.ref w3]))) := fun a o na ha => by
      rw [upd_ne na]
      exact x3 _ _ (Xd3 a o na ha)
    have gl3 : upd F3 p22 (.lst (ts2 ++ [.ref w3])) p22 = some (.lst (ts2 ++ [.ref w3])) := upd_same
    have ln3 : (ts2 ++ [V.ref w3]).length ≤ 3 := by rw [List.length_append, List.length_singleton]; omega
    generalize hK3 : upd F3 p22 (.lst (ts2 ++ [.ref w3])) = K3 at P3 X3 gl3
    generalize ts2 ++ [V.ref w3] = ts3 at P3 gl3 ln3
    walk_at "ss"
    refine mkv2 fun a4 d4 A4 na4 nd4 f4 r4 => ?_
    walk_at "ss"
    have gl4a := f4 _ _ gl3
    refine ⟨.inl ⟨rfl, _, SqL.of gl4a⟩, ?_⟩
    walk_at "ss"
    refine ⟨a4, _, d4, _, _, rfl, (tOk1 T.x_NotYet (f := "name") (by decide +kernel)).1, (tOk1 T.x_NotYet (f := "name") (by decide +kernel)).2, r4.1, r4.2, (lk2b (by decide +kernel)), ?_⟩
    walk_at "ss"
    refine ⟨a4, _, d4, _, _, rfl, (tOk1 T.x_NotYet (f := "other") (by decide +kernel)).1, (tOk1 T.x_NotYet (f := "other") (by decide +kernel)).2, r4.1, r4.2, lk2a, ?_⟩
    walk_at "ss"
    refine newL fun q4 B4 hq4 s4 m4 => ?_
    walk_at "ss"
    refine newL fun u4 D4 hu4 t4 o4 => ?_
    walk_at "ss"
    refine newT fun w4 F4 hw4 x4 z4 => ?_
    walk_at "ss"
    have gl4b := ((s4.trans t4).trans x4) _ _ gl4a
    refine ⟨_, _, _, rfl, rfl, gl4b, Evl.sz_lt (by omega), ?_⟩
    have Xa4 : ExB p22 H A4 := X3.ex f4
    have Xb4 : ExB p22 H B4 := Xa4.ex s4
    have Xd4 : ExB p22 H D4 := Xb4.ex t4
    have P4 := app_pair P3 (((f4.trans s4).trans t4).trans x4) z4 (r4.up ((s4.trans t4).trans x4)) ((t4.trans x4) _ _ m4) (x4 _ _ o4)
      ⟨fr2 (fun a o h1 h2 => Xd4 a o h2 h1) ((s4.trans t4) _ _ gl4a) hl0 hw4, fr2 (fun a o h1 h2 => X3 a o h2 h1) gl3 hl0 na4, fr2 (fun a o h1 h2 => X3 a o h2 h1) gl3 hl0 nd4, fr2 (fun a o h1 h2 => Xa4 a o h2 h1) gl4a hl0 hq4, fr2 (fun a o h1 h2 => Xb4 a o h2 h1) (s4 _ _ gl4a) hl0 hu4⟩
    have X4 : ExB p22 H (upd F4 p22 (.lst (ts3 ++ [.ref w4]))) := fun a o na ha => by
      rw [upd_ne na]
      exact x4 _ _ (Xd4 a o na ha)
    have gl4 : upd F4 p22 (.lst (ts3 ++ [.ref w4])) p22 = some (.lst (ts3 ++ [.ref w4])) := upd_same
    have ln4 : (ts3 ++ [V.ref w4]).length ≤ 4 := by rw [List.length_append, List.length_singleton]; omega
    generalize hK4 : upd F4 p22 (.lst (ts3 ++ [.ref w4])) = K4 at P4 X4 gl4
    generalize ts3 ++ [V.ref w4] = ts4 at P4 gl4 ln4
    walk_at "ss"
    exact k ts4 p22 K4 hl0 (fun a o ha => X4 a o (ne_of_none ha hl0) ha) gl4 (P4.imp fun a o na _ => na.1)
/-! ### kinds -/
def allC (Z : Adr) : List Addr := [Z.c_NoNumber, Z.c_NoValue, Z.c_NoName, Z.c_NoTerm, Z.c_NoEquation, Z.c_NoNode, Z.c_NoProgram, Z.c_NoBeats, Z.c_NoCells, Z.c_NoOrder, Z.c_Twice, Z.c_Unknown, Z.c_NoOut, Z.c_NoRead, Z.c_NoClock, Z.c_NoCall, Z.c_NoText, Z.c_TooMany, Z.c_NoFit, Z.c_Ring, Z.c_NoLine, Z.c_Hidden, Z.c_NoArgs, Z.c_NoInput, Z.c_NotYet]
def sp_kinds_l (K : PySem.W.Frag) (Z : Adr) : Sp := fun vs H Q _ => ∃ (a D : Addr) (β : Nat → Bool), vs = [.ref a] ∧ IcC K D ∧ ErrAt H a D ∧ (∀ (j : Nat) (C : Addr), (allC Z)[j]? = some C → PySem.W.kitOne K (.ref D) (.ref C) = some (β j)) ∧ RetL ((List.range 25).map fun j => .bl (β j)) H Q
theorem ok_kinds_l (T : Txt K mg Z) : FnOk P w K mg base CX0 1 Z.f_kinds_l Z.fd_kinds_l ["_law_e"] (sp_kinds_l K Z) := by
  refine T.F_kinds_l.ok sc_kinds_l (fun vs H Q E h => ?_) (fun cdv AA outer s H vs Q E hr h => ?_)
  · obtain ⟨a, D, β, rfl, _⟩ := h
    rfl
  · obtain ⟨a, D, β, rfl, ic, er, hk, k⟩ := h
    refine ⟨_, (pss_cons (ps_set (i := 1) sc_kinds_l.nd rfl (Or.inl rfl) (pe_lst (pa_cons (pe_callB call_isX (by rfl) T.n_isinstance (by decide +kernel) (pa_cons (pv 0) (pa_cons (pe_gcst (v := .ref Z.c_NoNumber) rfl ⟨_, T.m_NoNumber, rfl⟩) pa_nil))) (pa_cons (pe_callB call_isX (by rfl) T.n_isinstance (by decide +kernel) (pa_cons (pv 0) (pa_cons (pe_gcst (v := .ref Z.c_NoValue) rfl ⟨_, T.m_NoValue, rfl⟩) pa_nil))) (pa_cons (pe_callB call_isX (by rfl) T.n_isinstance (by decide +kernel) (pa_cons (pv 0) (pa_cons (pe_gcst (v := .ref Z.c_NoName) rfl ⟨_, T.m_NoName, rfl⟩) pa_nil))) (pa_cons (pe_callB call_isX (by rfl) T.n_isinstance (by decide +kernel) (pa_cons (pv 0) (pa_cons (pe_gcst (v := .ref Z.c_NoTerm) rfl ⟨_, T.m_NoTerm, rfl⟩) pa_nil))) pa_nil))))))
      (pss_cons (ps_set (i := 1) sc_kinds_l.nd rfl (Or.inl rfl) (pe_op op_cat (pv 1) (pe_lst (pa_cons (pe_callB call_isX (by rfl) T.n_isinstance (by decide +kernel) (pa_cons (pv 0) (pa_cons (pe_gcst (v := .ref Z.c_NoEquation) rfl ⟨_, T.m_NoEquation, rfl⟩) pa_nil))) (pa_cons (pe_callB call_isX (by rfl) T.n_isinstance (by decide +kernel) (pa_cons (pv 0) (pa_cons (pe_gcst (v := .ref Z.c_NoNode) rfl ⟨_, T.m_NoNode, rfl⟩) pa_nil))) (pa_cons (pe_callB call_isX (by rfl) T.n_isinstance (by decide +kernel) (pa_cons (pv 0) (pa_cons (pe_gcst (v := .ref Z.c_NoProgram) rfl ⟨_, T.m_NoProgram, rfl⟩) pa_nil))) (pa_cons (pe_callB call_isX (by rfl) T.n_isinstance (by decide +kernel) (pa_cons (pv 0) (pa_cons (pe_gcst (v := .ref Z.c_NoBeats) rfl ⟨_, T.m_NoBeats, rfl⟩) pa_nil))) pa_nil)))))))
      (pss_cons (ps_set (i := 1) sc_kinds_l.nd rfl (Or.inl rfl) (pe_op op_cat (pv 1) (pe_lst (pa_cons (pe_callB call_isX (by rfl) T.n_isinstance (by decide +kernel) (pa_cons (pv 0) (pa_cons (pe_gcst (v := .ref Z.c_NoCells) rfl ⟨_, T.m_NoCells, rfl⟩) pa_nil))) (pa_cons (pe_callB call_isX (by rfl) T.n_isinstance (by decide +kernel) (pa_cons (pv 0) (pa_cons (pe_gcst (v := .ref Z.c_NoOrder) rfl ⟨_, T.m_NoOrder, rfl⟩) pa_nil))) (pa_cons (pe_callB call_isX (by rfl) T.n_isinstance (by decide +kernel) (pa_cons (pv 0) (pa_cons (pe_gcst (v := .ref Z.c_Twice) rfl ⟨_, T.m_Twice, rfl⟩) pa_nil))) (pa_cons (pe_callB call_isX (by rfl) T.n_isinstance (by decide +kernel) (pa_cons (pv 0) (pa_cons (pe_gcst (v := .ref Z.c_Unknown) rfl ⟨_, T.m_Unknown, rfl⟩) pa_nil))) pa_nil)))))))
      (pss_cons (ps_set (i := 1) sc_kinds_l.nd rfl (Or.inl rfl) (pe_op op_cat (pv 1) (pe_lst (pa_cons (pe_callB call_isX (by rfl) T.n_isinstance (by decide +kernel) (pa_cons (pv 0) (pa_cons (pe_gcst (v := .ref Z.c_NoOut) rfl ⟨_, T.m_NoOut, rfl⟩) pa_nil))) (pa_cons (pe_callB call_isX (by rfl) T.n_isinstance (by decide +kernel) (pa_cons (pv 0) (pa_cons (pe_gcst (v := .ref Z.c_NoRead) rfl ⟨_, T.m_NoRead, rfl⟩) pa_nil))) (pa_cons (pe_callB call_isX (by rfl) T.n_isinstance (by decide +kernel) (pa_cons (pv 0) (pa_cons (pe_gcst (v := .ref Z.c_NoClock) rfl ⟨_, T.m_NoClock, rfl⟩) pa_nil))) (pa_cons (pe_callB call_isX (by rfl) T.n_isinstance (by decide +kernel) (pa_cons (pv 0) (pa_cons (pe_gcst (v := .ref Z.c_NoCall) rfl ⟨_, T.m_NoCall, rfl⟩) pa_nil))) pa_nil)))))))
      (pss_cons (ps_set (i := 1) sc_kinds_l.nd rfl (Or.inl rfl) (pe_op op_cat (pv 1) (pe_lst (pa_cons (pe_callB call_isX (by rfl) T.n_isinstance (by decide +kernel) (pa_cons (pv 0) (pa_cons (pe_gcst (v := .ref Z.c_NoText) rfl ⟨_, T.m_NoText, rfl⟩) pa_nil))) (pa_cons (pe_callB call_isX (by rfl) T.n_isinstance (by decide +kernel) (pa_cons (pv 0) (pa_cons (pe_gcst (v := .ref Z.c_TooMany) rfl ⟨_, T.m_TooMany, rfl⟩) pa_nil))) (pa_cons (pe_callB call_isX (by rfl) T.n_isinstance (by decide +kernel) (pa_cons (pv 0) (pa_cons (pe_gcst (v := .ref Z.c_NoFit) rfl ⟨_, T.m_NoFit, rfl⟩) pa_nil))) (pa_cons (pe_callB call_isX (by rfl) T.n_isinstance (by decide +kernel) (pa_cons (pv 0) (pa_cons (pe_gcst (v := .ref Z.c_Ring) rfl ⟨_, T.m_Ring, rfl⟩) pa_nil))) pa_nil)))))))
      (pss_cons (ps_set (i := 1) sc_kinds_l.nd rfl (Or.inl rfl) (pe_op op_cat (pv 1) (pe_lst (pa_cons (pe_callB call_isX (by rfl) T.n_isinstance (by decide +kernel) (pa_cons (pv 0) (pa_cons (pe_gcst (v := .ref Z.c_NoLine) rfl ⟨_, T.m_NoLine, rfl⟩) pa_nil))) (pa_cons (pe_callB call_isX (by rfl) T.n_isinstance (by decide +kernel) (pa_cons (pv 0) (pa_cons (pe_gcst (v := .ref Z.c_Hidden) rfl ⟨_, T.m_Hidden, rfl⟩) pa_nil))) (pa_cons (pe_callB call_isX (by rfl) T.n_isinstance (by decide +kernel) (pa_cons (pv 0) (pa_cons (pe_gcst (v := .ref Z.c_NoArgs) rfl ⟨_, T.m_NoArgs, rfl⟩) pa_nil))) (pa_cons (pe_callB call_isX (by rfl) T.n_isinstance (by decide +kernel) (pa_cons (pv 0) (pa_cons (pe_gcst (v := .ref Z.c_NoInput) rfl ⟨_, T.m_NoInput, rfl⟩) pa_nil))) pa_nil)))))))
      (pss_one (ps_ret (pe_op op_cat (pv 1) (pe_lst (pa_cons (pe_callB call_isX (by rfl) T.n_isinstance (by decide +kernel) (pa_cons (pv 0) (pa_cons (pe_gcst (v := .ref Z.c_NotYet) rfl ⟨_, T.m_NotYet, rfl⟩) pa_nil))) pa_nil))))))))))), ?_⟩
    walk_at "ss"
    refine is_x (.own _) ic er (hk 0 _ rfl) ?_
    walk_at "ss"
    refine is_x (.own _) ic er (hk 1 _ rfl) ?_
    walk_at "ss"
    refine is_x (.own _) ic er (hk 2 _ rfl) ?_
    walk_at "ss"
    refine is_x (.own _) ic er (hk 3 _ rfl) ?_
    walk_at "ss"
    refine newL fun p0 G0 hp0 f0 g0 => ?_
    have er0 := er.up f0
    have e0 := f0
    have l0 := g0
    walk_at "ss"
    refine is_x (.own _) ic er0 (hk 4 _ rfl) ?_
    walk_at "ss"
    refine is_x (.own _) ic er0 (hk 5 _ rfl) ?_
    walk_at "ss"
    refine is_x (.own _) ic er0 (hk 6 _ rfl) ?_
    walk_at "ss"
    refine is_x (.own _) ic er0 (hk 7 _ rfl) ?_
    walk_at "ss"
    refine newL fun p1 G1 hp1 f1 g1 => ?_
    refine c_cat (f1 _ _ l0) g1 fun q1 F1 hq1 s1 l1 => ?_
    have er1 := (er0.up f1).up s1
    have e1 := (e0.trans f1).trans s1
    walk_at "ss"
    refine is_x (.own _) ic er1 (hk 8 _ rfl) ?_
    walk_at "ss"
    refine is_x (.own _) ic er1 (hk 9 _ rfl) ?_
    walk_at "ss"
    refine is_x (.own _) ic er1 (hk 10 _ rfl) ?_
    walk_at "ss"
    refine is_x (.own _) ic er1 (hk 11 _ rfl) ?_
    walk_at "ss"
    refine newL fun p2 G2 hp2 f2 g2 => ?_
    refine c_cat (f2 _ _ l1) g2 fun q2 F2 hq2 s2 l2 => ?_
    have er2 := (er1.up f2).up s2
    have e2 := (e1.trans f2).trans s2
    walk_at "ss"
    refine is_x (.own _) ic er2 (hk 12 _ rfl) ?_
    walk_at "ss"
    refine is_x (.own _) ic er2 (hk 13 _ rfl) ?_
    walk_at "ss"
    refine is_x (.own _) ic er2 (hk 14 _ rfl) ?_
    walk_at "ss"
    refine is_x (.own _) ic er2 (hk 15 _ rfl) ?_
    walk_at "ss"
    refine newL fun p3 G3 hp3 f3 g3 => ?_
    refine c_cat (f3 _ _ l2) g3 fun q3 F3 hq3 s3 l3 => ?_
    have er3 := (er2.up f3).up s3
    have e3 := (e2.trans f3).trans s3
    walk_at "ss"
    refine is_x (.own _) ic er3 (hk 16 _ rfl) ?_
    walk_at "ss"
    refine is_x (.own _) ic er3 (hk 17 _ rfl) ?_
    walk_at "ss"
    refine is_x (.own _) ic er3 (hk 18 _ rfl) ?_
    walk_at "ss"
    refine is_x (.own _) ic er3 (hk 19 _ rfl) ?_
    walk_at "ss"
    refine newL fun p4 G4 hp4 f4 g4 => ?_
    refine c_cat (f4 _ _ l3) g4 fun q4 F4 hq4 s4 l4 => ?_
    have er4 := (er3.up f4).up s4
    have e4 := (e3.trans f4).trans s4
    walk_at "ss"
    refine is_x (.own _) ic er4 (hk 20 _ rfl) ?_
    walk_at "ss"
    refine is_x (.own _) ic er4 (hk 21 _ rfl) ?_
    walk_at "ss"
    refine is_x (.own _) ic er4 (hk 22 _ rfl) ?_
    walk_at "ss"
    refine is_x (.own _) ic er4 (hk 23 _ rfl) ?_
    walk_at "ss"
    refine newL fun p5 G5 hp5 f5 g5 => ?_
    refine c_cat (f5 _ _ l4) g5 fun q5 F5 hq5 s5 l5 => ?_
    have er5 := (er4.up f5).up s5
    have e5 := (e4.trans f5).trans s5
    walk_at "ss"
    refine is_x (.own _) ic er5 (hk 24 _ rfl) ?_
    walk_at "ss"
    refine newL fun p6 G6 hp6 f6 g6 => ?_
    refine c_cat (f6 _ _ l5) g6 fun q6 F6 hq6 s6 l6 => ?_
    have er6 := (er5.up f6).up s6
    have e6 := (e5.trans f6).trans s6
    walk_at "ss"
    exact k q6 F6 (ex_back (e5.trans f6) hq6) e6 l6

def sp_law (K : PySem.W.Frag) : Sp := fun vs H Q _ => ∃ (a : Addr) (ns : List Int), vs = [.ref a] ∧ SqL K H a (ns.map V.int) ∧ ns.length ≤ 63 ∧ ∀ H', Q (.bl true) H'
theorem no_true : inV (.bl true) ((List.range 25).map fun _ => V.bl false) = false := by decide +kernel
theorem ok_law (T : Txt K mg Z) : FnOk P w K mg base CX0 4 Z.f_law Z.fd_law ["_law_script"] (sp_law K) := by
  have G_cell_at_l := ok_cell_at_l (P := P) (w := w) (base := base) T
  have G_box_l := ok_box_l (P := P) (w := w) (base := base) T
  have G_thing_l := ok_thing_l (P := P) (w := w) (base := base) T
  have G_ones_l := ok_ones_l (P := P) (w := w) (base := base) T
  have G_twos_l := ok_twos_l (P := P) (w := w) (base := base) T
  have G_kinds_l := ok_kinds_l (P := P) (w := w) (base := base) T
  have G_same_l := ok_same_l (P := P) (w := w) (base := base) T
  refine T.F_law.ok sc_law (fun vs H Q E h => ?_) (fun cdv AA outer s H vs Q E hr h => ?_)
  · obtain ⟨a, ns, rfl, _⟩ := h
    rfl
  · obtain ⟨a, ns, rfl, hS, hl, k⟩ := h
    have FM := famB_ok T.fact_fam
    refine ⟨_, (pss_cons (ps_set (i := 1) sc_law.nd rfl (Or.inl rfl) (pe_exc1 PySem.F.excBase_ValueError T.e_BeatError T.m_BeatError T.k_BeatError rfl pe_str))
      (pss_cons (ps_if (PW.pt (pw_or (pt_not (pt_val (pe_callB call_isX (by rfl) T.n_isinstance (by decide +kernel) (pa_cons (pv 1) (pa_cons (pe_bltn (v := .ty "ValueError") (by rfl) T.n_ValueError (by decide +kernel) rfl) pa_nil))))) (pw_or1 (pt_cmpR op_in_seq pe_bl (pe_call G_kinds_l (hr.mono (by decide)) rfl T.g_kinds_l T.F_kinds_l.kp T.b_kinds_l .nil pass0 (pa_cons (pv 1) pa_nil)) (by rfl))))) (pss_one (ps_ret pe_bl)) pss_nil)
      (pss_cons (ps_for PassesOwn.never rfl (pi_range1 (by rfl) T.n_range (pa_cons (pe_callB (call_max2 rfl) (by rfl) T.n_max (by decide +kernel) (pa_cons pe_int (pa_cons (pe_callB (call_min2 rfl) (by rfl) T.n_min (by decide +kernel) (pa_cons pe_int (pa_cons (pe_callB call_len_seq (by rfl) T.n_len (by decide +kernel) (pa_cons (pv 0) pa_nil)) pa_nil))) pa_nil))) pa_nil)) (pg_name (i := 2) sc_law.nd rfl (Or.inl rfl)) (pss_cons (ps_set (i := 3) sc_law.nd rfl (Or.inl rfl) (pe_call G_box_l (hr.mono (by decide)) rfl T.g_box_l T.F_box_l.kp T.b_box_l .nil pass0 (pa_cons (pe_call G_cell_at_l (hr.mono (by decide)) rfl T.g_cell_at_l T.F_cell_at_l.kp T.b_cell_at_l .nil pass0 (pa_cons (pv 0) (pa_cons (pv 2) pa_nil))) pa_nil)))
      (pss_cons (ps_set (i := 4) sc_law.nd rfl (Or.inl rfl) (pe_call G_thing_l (hr.mono (by decide)) rfl T.g_thing_l T.F_thing_l.kp T.b_thing_l .nil pass0 (pa_cons (pv 3) pa_nil)))
      (pss_cons (ps_set (i := 5) sc_law.nd rfl (Or.inl rfl) (pe_op op_cat (pe_call G_ones_l (hr.mono (by decide)) rfl T.g_ones_l T.F_ones_l.kp T.b_ones_l .nil pass0 (pa_cons (pv 4) pa_nil)) (pe_call G_twos_l (hr.mono (by decide)) rfl T.g_twos_l T.F_twos_l.kp T.b_twos_l .nil pass0 (pa_cons (pv 4) (pa_cons (pe_call G_thing_l (hr.mono (by decide)) rfl T.g_thing_l T.F_thing_l.kp T.b_thing_l .nil pass0 (pa_cons (pv 3) pa_nil)) pa_nil)))))
      (pss_one (ps_for PassesOwn.never rfl (pi_enum (by rfl) T.n_enumerate (pa_cons (pv 5) pa_nil)) (pg_tup (by rfl) (pgs_cons (pg_name (i := 6) sc_law.nd rfl (Or.inr rfl)) (pgs_cons (pg_tup (by rfl) (pgs_cons (pg_name (i := 7) sc_law.nd rfl (Or.inl rfl)) (pgs_cons (pg_name (i := 8) sc_law.nd rfl (Or.inl rfl)) (pgs_cons (pg_name (i := 9) sc_law.nd rfl (Or.inl rfl)) pgs_nil)))) pgs_nil))) (pss_cons (ps_if (PW.pt (pw_or (pt_not (pt_val (pe_callB call_isX (by rfl) T.n_isinstance (by decide +kernel) (pa_cons (pv 7) (pa_cons (pe_gcst (v := .ref Z.c_BeatError) rfl ⟨_, T.m_BeatError, rfl⟩) pa_nil))))) (pw_or1 (pt_not (pt_val (pe_callB call_isX (by rfl) T.n_isinstance (by decide +kernel) (pa_cons (pv 7) (pa_cons (pe_bltn (v := .ty "ValueError") (by rfl) T.n_ValueError (by decide +kernel) rfl) pa_nil)))))))) (pss_one (ps_ret pe_bl)) pss_nil)
      (pss_cons (ps_if (PW.pt (pw_or (pt_cmpR (op_neD hr.units) (pe_call G_kinds_l (hr.mono (by decide)) rfl T.g_kinds_l T.F_kinds_l.kp T.b_kinds_l .nil pass0 (pa_cons (pv 7) pa_nil)) (pe_lc (own := [("_law_j", 10)]) (g := (gName 10)) (tt := tYes) (te := (tOp rEq (tVar 6) (tVar 10))) rfl sc_law.nd (pi_range1 (by rfl) T.n_range (pa_cons pe_int pa_nil)) (blkOk_by (own := [("_law_j", 10)]) (N := N_law) (sc := defScope s_law) (by decide +kernel)) (fun _ _ _ _ _ => (pg_name (i := 10) sc_law.nd rfl (Or.inl rfl))) (fun _ _ _ _ _ => pts_nil) (fun _ _ _ _ _ => (pe_cmpR op_eq (pv 6) (pv 10) (nomark _)))) (nomark _)) (pw_or1 (pt_cmpR op_ne (pe_callB call_len_seq (by rfl) T.n_len (by decide +kernel) (pa_cons (pv 5) pa_nil)) pe_int (nomark _))))) (pss_one (ps_ret pe_bl)) pss_nil)
      (pss_one (ps_if (pt_not (pt_val (pe_callB (cr_all rfl) (by rfl) T.n_all (by decide +kernel) (pa_cons (pe_lc (own := [("_law_thing_here", 11), ("_law_other", 12)]) (g := (gTup K 2 (gCons (gName 11) (gCons (gName 12) gNil)))) (tt := tYes) (te := (tCall sp_same_l [] E0 (tCons (tVar 11) (tCons (tVar 12) tNil)))) rfl sc_law.nd (pi_zip (by rfl) T.n_zip (pa_cons (pv 8) (pa_cons (pv 9) pa_nil))) (blkOk_by (own := [("_law_thing_here", 11), ("_law_other", 12)]) (N := N_law) (sc := defScope s_law) (by decide +kernel)) (fun _ _ _ _ _ => (pg_tup (by rfl) (pgs_cons (pg_name (i := 11) sc_law.nd rfl (Or.inl rfl)) (pgs_cons (pg_name (i := 12) sc_law.nd rfl (Or.inl rfl)) pgs_nil)))) (fun _ _ _ _ _ => pts_nil) (fun _ _ _ _ _ => (pe_call G_same_l (hr.mono (by decide)) rfl T.g_same_l T.F_same_l.kp T.b_same_l .nil pass0 (pa_cons (pv 11) (pa_cons (pv 12) pa_nil))))) pa_nil)))) (pss_one (ps_ret pe_bl)) pss_nil))))))))))
      (pss_one (ps_ret pe_bl))))), ?_⟩
    walk_at "ss"
    intro a0 ha0
    have e0 : Ex H (upd H a0 (ExO (.ref Z.c_BeatError) a0)) := Ex.new ha0
    generalize hH0 : upd H a0 (ExO (.ref Z.c_BeatError) a0) = H0 at e0
    have er0 : ErrAt H0 a0 Z.c_BeatError := .inr (by rw [← hH0, upd_same])
    have ic0 := icB_ok T.w_BeatError
    walk_at "ss"
    refine is_x (.ty _) ic0 er0 FM.bv ?_
    walk_at "ss"
    refine ⟨a0, Z.c_BeatError, fun _ => false, rfl, ic0, er0, fun j C hj => FM.n C (List.mem_of_getElem? hj), fun p1 H1 hp1 e1 g1 => ?_⟩
    refine c_in (.inl (SqL.of g1)) rfl (by decide +kernel) ?_
    rw [no_true]
    walk_at "ss"
    refine ⟨_, _, rfl, .inl (ex_l (e0.trans e1) hS), ?_⟩
    walk_at "ss"
    refine ⟨_, _, rfl, ?_⟩
    walk_at "ss"
    refine ⟨_, _, rfl, ?_⟩
    walk_at "ss"
    refine ⟨by split <;> split <;> omega, by split <;> split <;> omega, ?_⟩
    refine forR (fun i σ' H' => (∃ v2 v3 v4 v5 v6 v7 v8 v9 v10 v11 v12, σ' = [some (.ref a), some (.ref a0), v2, v3, v4, v5, v6, v7, v8, v9, v10, v11, v12]) ∧ Ex H H') ⟨⟨_, _, _, _, _, _, _, _, _, _, _, rfl⟩, e0.trans e1⟩ ?_ ?_
    · rintro i0 σ' G0 hi0 ⟨⟨v2, v3, v4, v5, v6, v7, v8, v9, v10, v11, v12, rfl⟩, e⟩
      walk_at "ss"
      refine ⟨_, _, _, rfl, ex_l e hS, by omega, fun n => ?_⟩
      walk_at "ss"
      refine ⟨_, rfl, fun b G1 hb f1 hB => ?_⟩
      walk_at "ss"
      refine ⟨_, rfl, hB, fun x1 G2 th1 fr1 y2 hB2 => ?_⟩
      walk_at "ss"
      refine ⟨_, rfl, fun ts1 p3 G3 hp3 f3 g3 P3 => ?_⟩
      walk_at "ss"
      refine ⟨_, rfl, hB2.ex f3, fun x2 G4 th2 fr2 y4 hB4 => ?_⟩
      walk_at "ss"
      refine ⟨_, _, rfl, fun ts2 p5 G5 hp5 f5 g5 P5 => ?_⟩
      have nb : ∀ {p : Addr} {G : Hp}, BoxAt G b → G p = none → p ≠ b := fun hG hp z => by
        obtain ⟨o, ho⟩ := hG.some
        rw [z, ho] at hp
        cases hp
      have l1 : ts1.length = 21 := P3.1
      have l2 : ts2.length = 4 := P5.1
      have g3' : G5 p3 = some (.lst ts1) := f5 _ _ (y4 _ _ (nb hB2 hp3) g3)
      refine c_cat g3' g5 (fun p6 G6 hp6 f6 g6 => ?_) (by omega)
      walk_at "ss"
      refine ⟨_, _, rfl, SqL.of g6, ?_⟩
      -- the things, and all else
      have n1b : ∀ p, x1 = .ref p → p ≠ b := fun p hp => nb hB (fr1 p hp)
      have t14 : Thing 0 G4 x1 := (th1.ex f3).keep fun p o hp ho => y4 p o (n1b p hp) ho
      have hne : ∀ p, x1 = .ref p → x2 = .ref p → False := fun p h1 h2 => by
        have z := th1.ex f3
        rw [h1] at z
        obtain ⟨o, ho⟩ := z.at
        rw [fr2 p h2] at ho
        cases ho
      have nS4 : ∀ z, G4 z = none → ¬ (x1 = .ref z ∨ x2 = .ref z) := fun z hz h => by
        rcases h with h | h
        · rw [h] at t14
          obtain ⟨o, ho⟩ := t14.at
          rw [hz] at ho
          cases ho
        · rw [h] at th2
          obtain ⟨o, ho⟩ := th2.at
          rw [hz] at ho
          cases ho
      have nS3 : ∀ z o, G2 z = none → G3 z = some o → ¬ (x1 = .ref z ∨ x2 = .ref z) := fun z o hz ho h => by
        rcases h with h | h
        · have th := th1
          rw [h] at th
          obtain ⟨o', ho'⟩ := th.at
          rw [hz] at ho'
          cases ho'
        · rw [fr2 z h] at ho
          cases ho
      have Q1 : Prl (fun z => ¬ (x1 = .ref z ∨ x2 = .ref z) ∧ z ≠ b) G3 [x1] ts1 (onesC Z) := P3.imp fun z o hz ho => ⟨nS3 z o hz ho, nb hB2 hz⟩
      have Q2 : Prl (fun z => ¬ (x1 = .ref z ∨ x2 = .ref z)) G6 [x1] ts1 (onesC Z) := (Q1.up fun z o hz ho => f6 _ _ (f5 _ _ (y4 z o hz.2 ho))).imp fun z o hz _ => hz.1
      have Q3 : Prl (fun z => ¬ (x1 = .ref z ∨ x2 = .ref z)) G6 [x1, x2] ts2 (twosC Z) := (P5.imp fun z o hz _ => nS4 z hz).up fun z o _ ho => f6 _ _ ho
      have Q4 : ∀ (i : Nat) (t : V), (ts1 ++ ts2)[i]? = some t → ∃ C, (allC Z)[i]? = some C ∧ ∃ vs, (vs = [x1] ∨ vs = [x1, x2]) ∧ PrA (fun z => ¬ (x1 = .ref z ∨ x2 = .ref z)) G6 vs t C := by
        intro i t ht
        have hlt := (List.getElem?_eq_some_iff.mp ht).1
        rw [List.length_append] at hlt
        show ∃ C, (onesC Z ++ twosC Z)[i]? = some C ∧ _
        rcases Nat.lt_or_ge i ts1.length with h | h
        · have hC : i < (onesC Z).length := by rw [← Q2.1]; exact h
          rw [List.getElem?_append_left h] at ht
          rw [List.getElem?_append_left hC, List.getElem?_eq_getElem hC]
          exact ⟨_, rfl, _, .inl rfl, Q2.2 i t _ ht (List.getElem?_eq_getElem hC)⟩
        · have hC : i - ts1.length < (twosC Z).length := by rw [← Q3.1]; omega
          rw [List.getElem?_append_right h] at ht
          rw [List.getElem?_append_right (by rw [← Q2.1]; exact h), ← Q2.1, List.getElem?_eq_getElem hC]
          exact ⟨_, rfl, _, .inr rfl, Q3.2 _ t _ ht (List.getElem?_eq_getElem hC)⟩
      have nS6 : ∀ z, G5 z = none → ¬ (x1 = .ref z ∨ x2 = .ref z) := fun z hz => nS4 z (ex_back f5 hz)
      have ltot : (ts1 ++ ts2).length = 25 := by rw [List.length_append, l1, l2]
      generalize ts1 ++ ts2 = ts at g6 Q4 ltot
      refine forE (xs := ts) (fun i σ' G => (∃ v6 v7 v8 v9 v10 v11 v12, σ' = [some (.ref a), some (.ref a0), some (.int (i0 : Int)), some (.ref b), some x1, some (.ref p6), v6, v7, v8, v9, v10, v11, v12]) ∧ ExS (fun z => x1 = .ref z ∨ x2 = .ref z) G6 G ∧ Thing (2 * i) G x1 ∧ Thing (2 * i) G x2)
        ⟨⟨_, _, _, _, _, _, _, rfl⟩, ExS.refl _, (t14.ex f5).ex f6, (th2.ex f5).ex f6⟩ (fun i σ' G _ p => SqL.of (p.2.1 _ _ (nS6 p6 hp6) g6)) ?_ ?_
      · rintro i t T' σ' G hi ⟨⟨v6, v7, v8, v9, v10, v11, v12, rfl⟩, eS, t1, t2⟩ hT'
        have i25 : i < 25 := by rw [← ltot]; exact (List.getElem?_eq_some_iff.mp hi).1
        obtain ⟨C, hC, vs, hvs, T0, er, d, p, q, fs, rfl, hT0, her, hpp, hqq, m1, m2, m3, m4, m5⟩ := Q4 i t hi
        have hxB : ∀ C ∈ allC Z, IcC K C := by
          intro C hC
          unfold allC at hC
          simp only [List.mem_cons, List.not_mem_nil, or_false] at hC
          rcases hC with rfl | rfl | rfl | rfl | rfl | rfl | rfl | rfl | rfl | rfl | rfl | rfl | rfl | rfl | rfl | rfl | rfl | rfl | rfl | rfl | rfl | rfl | rfl | rfl | rfl
          · exact (exB_ok T.x_NoNumber).ic
          · exact (exB_ok T.x_NoValue).ic
          · exact (exB_ok T.x_NoName).ic
          · exact (exB_ok T.x_NoTerm).ic
          · exact (exB_ok T.x_NoEquation).ic
          · exact (exB_ok T.x_NoNode).ic
          · exact (exB_ok T.x_NoProgram).ic
          · exact (exB_ok T.x_NoBeats).ic
          · exact (exB_ok T.x_NoCells).ic
          · exact (exB_ok T.x_NoOrder).ic
          · exact (exB_ok T.x_Twice).ic
          · exact (exB_ok T.x_Unknown).ic
          · exact (exB_ok T.x_NoOut).ic
          · exact (exB_ok T.x_NoRead).ic
          · exact (exB_ok T.x_NoClock).ic
          · exact (exB_ok T.x_NoCall).ic
          · exact (exB_ok T.x_NoText).ic
          · exact (exB_ok T.x_TooMany).ic
          · exact (exB_ok T.x_NoFit).ic
          · exact (exB_ok T.x_Ring).ic
          · exact (exB_ok T.x_NoLine).ic
          · exact (exB_ok T.x_Hidden).ic
          · exact (exB_ok T.x_NoArgs).ic
          · exact (exB_ok T.x_NoInput).ic
          · exact (exB_ok T.x_NotYet).ic
        have ic := hxB C (List.mem_of_getElem? hC)
        have eT : Ex G (upd G T' (.tup [.int (i : Nat), .ref T0])) := Ex.new hT'
        generalize hG1 : upd G T' (.tup [.int (i : Nat), .ref T0]) = K1 at eT
        have gT : K1 T' = some (.tup [.int (i : Nat), .ref T0]) := by rw [← hG1, upd_same]
        refine c_gTup (SqT.of gT) rfl ?_
        walk_at "ss"
        have up1 : ∀ {z : Addr} {o : HO}, ¬ (x1 = .ref z ∨ x2 = .ref z) → G6 z = some o → K1 z = some o := fun h1 h2 => eT _ _ (eS _ _ h1 h2)
        refine c_gTup (SqT.of (up1 m1 hT0)) rfl ?_
        have her1 : Er K1 er C d fs := ⟨up1 m2 her.1, up1 m3 her.2⟩
        walk_at "ss"
        refine is_x (.own _) ic her1.at (FM.b C (List.mem_of_getElem? hC)) ?_
        walk_at "ss"
        refine is_x (.ty _) ic her1.at (FM.v C (List.mem_of_getElem? hC)) ?_
        walk_at "ss"
        refine ⟨er, C, fun j => decide (i = j), rfl, ic, her1.at, fun j C' hj => FM.k i j C C' hC hj, fun p7 K2 hp7 h2 g7 => ?_⟩
        walk_at "ss"
        refine ⟨by decide, by decide, ?_⟩
        refine lcR (n := 25) (fun j => some (.bl (decide (i = j)))) (by decide) (fun j hj => ?_) (fun p8 K3 hp8 h3 g8 => ?_)
        · intro K3 h3 R hR
          walk_at "ss"
          have ed : decide (V.int (i : Int) = V.int (j : Int)) = decide (i = j) := by
            rw [Bool.eq_iff_iff, decide_eq_true_eq, decide_eq_true_eq, V.int.injEq]
            omega
          rw [ed]
          exact hR _ (Ex.refl _)
        rw [fm_some] at g8
        have fl : ((List.range 25).map fun j => V.bl (decide (i = j))).all okV = true := by
          rw [List.all_eq_true]
          intro v hv
          obtain ⟨j, _, rfl⟩ := List.mem_map.mp hv
          rfl
        refine c_neLs (SqL.of (h3 _ _ g7)) (SqL.of g8) fl fl ?_
        rw [eqL_refl (okL_flat fl)]
        walk_at "ss"
        have eT3 := (eT.trans h2).trans h3
        refine ⟨_, _, rfl, .inl (SqL.of (eT3 _ _ (eS _ _ (nS6 p6 hp6) g6))), ?_⟩
        walk_at "ss"
        rw [ltot]
        refine if_ff (by decide) ?_
        walk_at "ss"
        have up3 : ∀ {z : Addr} {o : HO}, ¬ (x1 = .ref z ∨ x2 = .ref z) → G6 z = some o → K3 z = some o := fun h1 h2 => eT3 _ _ (eS _ _ h1 h2)
        refine ⟨_, _, _, _, rfl, SqL.of (up3 m4 hpp), SqL.of (up3 m5 hqq), ?_⟩
        have vlen : vs.length ≤ 2 ∧ ∀ x ∈ vs, x = x1 ∨ x = x2 := by
          rcases hvs with rfl | rfl
          · exact ⟨by show 1 ≤ 2; omega, fun x hx => .inl (by simpa using hx)⟩
          · exact ⟨by show 2 ≤ 2; omega, fun x hx => by simpa using hx⟩
        have tt1 := t1.ex eT3
        have tt2 := t2.ex eT3
        refine lcZ (S := fun z => x1 = .ref z ∨ x2 = .ref z) (fun j G => Thing (2 * i + j) G x1 ∧ Thing (2 * i + j) G x2) rfl (by omega) (fun G eG => SqL.of (eG _ _ m4 (up3 m4 hpp))) (fun G eG => SqL.of (eG _ _ m5 (up3 m5 hqq))) ⟨tt1, tt2⟩ ?_ ?_ ?_ ?_
        · rintro j G D o hD ⟨u1, u2⟩
          have ne : ∀ {x : V}, Thing (2 * i) K3 x → ∀ p, x = .ref p → p ≠ D := fun tx p hp z => by
            rw [hp] at tx
            obtain ⟨o, ho⟩ := tx.at
            rw [z, hD] at ho
            cases ho
          exact ⟨u1.keep fun p o hp ho => by rw [upd_ne (ne tt1 p hp)]; exact ho, u2.keep fun p o hp ho => by rw [upd_ne (ne tt2 p hp)]; exact ho⟩
        · rintro z (h | h) hz
          · rw [h] at tt1
            obtain ⟨o, ho⟩ := tt1.at
            rw [hz] at ho
            cases ho
          · rw [h] at tt2
            obtain ⟨o, ho⟩ := tt2.at
            rw [hz] at ho
            cases ho
        · rintro j x y hx hy K4 T4 e4 ⟨u1, u2⟩ hT4 R N hR
          obtain rfl : x = y := Option.some.inj (hx.symm.trans hy)
          have hj : j < 2 := by have := (List.getElem?_eq_some_iff.mp hx).1; omega
          have eT4 : Ex K4 (upd K4 T4 (.tup [x, x])) := Ex.new hT4
          generalize hK5 : upd K4 T4 (.tup [x, x]) = K5 at eT4 hR
          have gT4 : K5 T4 = some (.tup [x, x]) := by rw [← hK5, upd_same]
          refine c_gTup (SqT.of gT4) rfl ?_
          walk_at "ss"
          have w1 := u1.ex eT4
          have w2 := u2.ex eT4
          rcases vlen.2 x (List.mem_of_getElem? hx) with rfl | rfl
          · refine ⟨2 * i + j, _, rfl, by omega, w1, fun K6 e6 t6 => ?_⟩
            exact hR K6 (fun z o nz hz => e6 z o (fun h => nz (.inl h)) hz) ⟨t6, (w2.keep fun p o hp ho => e6 p o (fun h => hne p h hp) ho).mono (by omega)⟩
          · refine ⟨2 * i + j, _, rfl, by omega, w2, fun K6 e6 t6 => ?_⟩
            exact hR K6 (fun z o nz hz => e6 z o (fun h => nz (.inr h)) hz) ⟨(w1.keep fun p o hp ho => e6 p o (fun h => hne p hp h) ho).mono (by omega), t6⟩
        · rintro p9 K7 hp9 e7 ⟨u1, u2⟩ g9
          walk_at "ss"
          refine ⟨p9, List.replicate vs.length true, rfl, SqL.of (by rw [g9, List.map_replicate]), ?_⟩
          have ea : (List.replicate vs.length true).all id = true := by
            rw [List.all_eq_true]
            intro b hb
            exact (List.eq_of_mem_replicate hb)
          rw [ea]
          walk_at "ss"
          have hv2 := vlen.1
          refine ⟨⟨_, _, _, _, _, _, _, rfl⟩, (eS.trans (ExS.of eT3)).trans e7, u1.mono (by omega), u2.mono (by omega)⟩
      · rintro σ' G ⟨⟨v6, v7, v8, v9, v10, v11, v12, rfl⟩, eS, t1, t2⟩
        walk_at "ss"
        refine ⟨⟨_, _, _, _, _, _, _, _, _, _, _, rfl⟩, e.trans fun z o hz => ?_⟩
        have z1 : z ≠ b := ne_of_none hz hb
        have s3 := f3 _ _ (y2 _ _ z1 (f1 _ _ hz))
        refine eS _ _ (fun h => ?_) (f6 _ _ (f5 _ _ (y4 _ _ z1 s3)))
        rcases h with h | h
        · have z3 := fr1 z h
          rw [f1 _ _ hz] at z3
          cases z3
        · rw [fr2 z h] at s3
          cases s3
    · rintro σ' G ⟨⟨v2, v3, v4, v5, v6, v7, v8, v9, v10, v11, v12, rfl⟩, e⟩
      walk_at "ss"
      exact k _

end
theorem all_mk {l : PySem.W.OpenLaw} {w : World} {K : PySem.W.Frag} {h : Heap} {mg : Str → Option Value} {fa : Addr} (X : K.In h) (G : h.Ns mainGlobals mg) (hfa : mg "law" = some (.ref fa))
    {f0 : Addr} {od0 an0 : Option Addr} {sl0 : Array (Option Value)} {oc0 kV0 dc0 pm0 cd0 ct0 : Value}
    {f1 : Addr} {od1 an1 : Option Addr} {sl1 : Array (Option Value)} {oc1 kV1 dc1 pm1 cd1 ct1 : Value}
    {f2 : Addr} {od2 an2 : Option Addr} {sl2 : Array (Option Value)} {oc2 kV2 dc2 pm2 cd2 ct2 : Value}
    {f3 : Addr} {od3 an3 : Option Addr} {sl3 : Array (Option Value)} {oc3 kV3 dc3 pm3 cd3 ct3 : Value}
    {f4 : Addr} {od4 an4 : Option Addr} {sl4 : Array (Option Value)} {oc4 kV4 dc4 pm4 cd4 ct4 : Value}
    {f5 : Addr} {od5 an5 : Option Addr} {sl5 : Array (Option Value)} {oc5 kV5 dc5 pm5 cd5 ct5 : Value}
    {f6 : Addr} {od6 an6 : Option Addr} {sl6 : Array (Option Value)} {oc6 kV6 dc6 pm6 cd6 ct6 : Value}
    {f7 : Addr} {od7 an7 : Option Addr} {sl7 : Array (Option Value)} {oc7 kV7 dc7 pm7 cd7 ct7 : Value}
    {f8 : Addr} {od8 an8 : Option Addr} {sl8 : Array (Option Value)} {oc8 kV8 dc8 pm8 cd8 ct8 : Value}
    {f9 : Addr} {od9 an9 : Option Addr} {sl9 : Array (Option Value)} {oc9 kV9 dc9 pm9 cd9 ct9 : Value}
    {f10 : Addr} {od10 an10 : Option Addr} {sl10 : Array (Option Value)} {oc10 kV10 dc10 pm10 cd10 ct10 : Value}
    {f11 : Addr} {od11 an11 : Option Addr} {sl11 : Array (Option Value)} {oc11 kV11 dc11 pm11 cd11 ct11 : Value}
    {f12 : Addr} {od12 an12 : Option Addr} {sl12 : Array (Option Value)} {oc12 kV12 dc12 pm12 cd12 ct12 : Value}
    {f13 : Addr} {od13 an13 : Option Addr} {sl13 : Array (Option Value)} {oc13 kV13 dc13 pm13 cd13 ct13 : Value}
    {f14 : Addr} {od14 an14 : Option Addr} {sl14 : Array (Option Value)} {oc14 kV14 dc14 pm14 cd14 ct14 : Value}
    {f15 : Addr} {od15 an15 : Option Addr} {sl15 : Array (Option Value)} {oc15 kV15 dc15 pm15 cd15 ct15 : Value}
    {f16 : Addr} {od16 an16 : Option Addr} {sl16 : Array (Option Value)} {oc16 kV16 dc16 pm16 cd16 ct16 : Value}
    {f17 : Addr} {od17 an17 : Option Addr} {sl17 : Array (Option Value)} {oc17 kV17 dc17 pm17 cd17 ct17 : Value}
    {f18 : Addr} {od18 an18 : Option Addr} {sl18 : Array (Option Value)} {oc18 kV18 dc18 pm18 cd18 ct18 : Value}
    {f19 : Addr} {od19 an19 : Option Addr} {sl19 : Array (Option Value)} {oc19 kV19 dc19 pm19 cd19 ct19 : Value}
    {f20 : Addr} {od20 an20 : Option Addr} {sl20 : Array (Option Value)} {oc20 kV20 dc20 pm20 cd20 ct20 : Value}
    {f21 : Addr} {od21 an21 : Option Addr} {sl21 : Array (Option Value)} {oc21 kV21 dc21 pm21 cd21 ct21 : Value}
    {f22 : Addr} {od22 an22 : Option Addr} {sl22 : Array (Option Value)} {oc22 kV22 dc22 pm22 cd22 ct22 : Value}
    {f23 : Addr} {od23 an23 : Option Addr} {sl23 : Array (Option Value)} {oc23 kV23 dc23 pm23 cd23 ct23 : Value}
    {f24 : Addr} {od24 an24 : Option Addr} {sl24 : Array (Option Value)} {oc24 kV24 dc24 pm24 cd24 ct24 : Value}
    {f25 : Addr} {od25 an25 : Option Addr} {sl25 : Array (Option Value)} {oc25 kV25 dc25 pm25 cd25 ct25 : Value}
    {f26 : Addr} {od26 an26 : Option Addr} {sl26 : Array (Option Value)} {oc26 kV26 dc26 pm26 cd26 ct26 : Value}
    {f27 : Addr} {od27 an27 : Option Addr} {sl27 : Array (Option Value)} {oc27 kV27 dc27 pm27 cd27 ct27 : Value}
    {f28 : Addr} {od28 an28 : Option Addr} {sl28 : Array (Option Value)} {oc28 kV28 dc28 pm28 cd28 ct28 : Value}
    {f29 : Addr} {od29 an29 : Option Addr} {sl29 : Array (Option Value)} {oc29 kV29 dc29 pm29 cd29 ct29 : Value}
    {f30 : Addr} {od30 an30 : Option Addr} {sl30 : Array (Option Value)} {oc30 kV30 dc30 pm30 cd30 ct30 : Value}
    {f31 : Addr} {od31 an31 : Option Addr} {sl31 : Array (Option Value)} {oc31 kV31 dc31 pm31 cd31 ct31 : Value}
    {f32 : Addr} {od32 an32 : Option Addr} {sl32 : Array (Option Value)} {oc32 kV32 dc32 pm32 cd32 ct32 : Value}
    {f33 : Addr} {od33 an33 : Option Addr} {sl33 : Array (Option Value)} {oc33 kV33 dc33 pm33 cd33 ct33 : Value}
    {c_BeatError : Addr}
    {c_NoNumber : Addr}
    {c_NoValue : Addr}
    {c_NoName : Addr}
    {c_NoTerm : Addr}
    {c_NoEquation : Addr}
    {c_NoNode : Addr}
    {c_NoProgram : Addr}
    {c_NoText : Addr}
    {c_Twice : Addr}
    {c_Unknown : Addr}
    {c_NoOut : Addr}
    {c_NoRead : Addr}
    {c_TooMany : Addr}
    {c_NoFit : Addr}
    {c_NoClock : Addr}
    {c_Ring : Addr}
    {c_Hidden : Addr}
    {c_NoArgs : Addr}
    {c_NoCall : Addr}
    {c_NoInput : Addr}
    {c_NotYet : Addr}
    {c_NoBeats : Addr}
    {c_NoCells : Addr}
    {c_NoOrder : Addr}
    {c_NoLine : Addr}
    (m_BeatError : PySem.W.nsIn K mainGlobals "BeatError" = some (some (.ref c_BeatError)))
    (q_BeatError : baseB K c_BeatError = true)
    (e_BeatError : PySem.W.excIn K c_BeatError [.type "ValueError", .type "Exception", .type "BaseException", .type "object"] "ValueError.__new__" = true)
    (k_BeatError : PySem.W.keepIn K (.ref c_BeatError) = true)
    (w_BeatError : icB K c_BeatError = true)
    (m_NoNumber : PySem.W.nsIn K mainGlobals "NoNumber" = some (some (.ref c_NoNumber)))
    (x_NoNumber : exB K c_NoNumber ["found"] = true)
    (i_NoNumber : PySem.W.findIn K (.ref c_NoNumber) "__init__" = some (some (.ref f0)))
    (y_NoNumber : PySem.W.typeIn K (.ref f0) = some (.type "function"))
    (m_NoValue : PySem.W.nsIn K mainGlobals "NoValue" = some (some (.ref c_NoValue)))
    (x_NoValue : exB K c_NoValue ["found"] = true)
    (i_NoValue : PySem.W.findIn K (.ref c_NoValue) "__init__" = some (some (.ref f1)))
    (y_NoValue : PySem.W.typeIn K (.ref f1) = some (.type "function"))
    (m_NoName : PySem.W.nsIn K mainGlobals "NoName" = some (some (.ref c_NoName)))
    (x_NoName : exB K c_NoName ["found"] = true)
    (i_NoName : PySem.W.findIn K (.ref c_NoName) "__init__" = some (some (.ref f2)))
    (y_NoName : PySem.W.typeIn K (.ref f2) = some (.type "function"))
    (m_NoTerm : PySem.W.nsIn K mainGlobals "NoTerm" = some (some (.ref c_NoTerm)))
    (x_NoTerm : exB K c_NoTerm ["found"] = true)
    (i_NoTerm : PySem.W.findIn K (.ref c_NoTerm) "__init__" = some (some (.ref f3)))
    (y_NoTerm : PySem.W.typeIn K (.ref f3) = some (.type "function"))
    (m_NoEquation : PySem.W.nsIn K mainGlobals "NoEquation" = some (some (.ref c_NoEquation)))
    (x_NoEquation : exB K c_NoEquation ["found"] = true)
    (i_NoEquation : PySem.W.findIn K (.ref c_NoEquation) "__init__" = some (some (.ref f4)))
    (y_NoEquation : PySem.W.typeIn K (.ref f4) = some (.type "function"))
    (m_NoNode : PySem.W.nsIn K mainGlobals "NoNode" = some (some (.ref c_NoNode)))
    (x_NoNode : exB K c_NoNode ["found"] = true)
    (i_NoNode : PySem.W.findIn K (.ref c_NoNode) "__init__" = some (some (.ref f5)))
    (y_NoNode : PySem.W.typeIn K (.ref f5) = some (.type "function"))
    (m_NoProgram : PySem.W.nsIn K mainGlobals "NoProgram" = some (some (.ref c_NoProgram)))
    (x_NoProgram : exB K c_NoProgram ["found"] = true)
    (i_NoProgram : PySem.W.findIn K (.ref c_NoProgram) "__init__" = some (some (.ref f6)))
    (y_NoProgram : PySem.W.typeIn K (.ref f6) = some (.type "function"))
    (m_NoText : PySem.W.nsIn K mainGlobals "NoText" = some (some (.ref c_NoText)))
    (x_NoText : exB K c_NoText ["at"] = true)
    (i_NoText : PySem.W.findIn K (.ref c_NoText) "__init__" = some (some (.ref f7)))
    (y_NoText : PySem.W.typeIn K (.ref f7) = some (.type "function"))
    (m_Twice : PySem.W.nsIn K mainGlobals "Twice" = some (some (.ref c_Twice)))
    (x_Twice : exB K c_Twice ["name"] = true)
    (i_Twice : PySem.W.findIn K (.ref c_Twice) "__init__" = some (some (.ref f8)))
    (y_Twice : PySem.W.typeIn K (.ref f8) = some (.type "function"))
    (m_Unknown : PySem.W.nsIn K mainGlobals "Unknown" = some (some (.ref c_Unknown)))
    (x_Unknown : exB K c_Unknown ["name"] = true)
    (i_Unknown : PySem.W.findIn K (.ref c_Unknown) "__init__" = some (some (.ref f9)))
    (y_Unknown : PySem.W.typeIn K (.ref f9) = some (.type "function"))
    (m_NoOut : PySem.W.nsIn K mainGlobals "NoOut" = some (some (.ref c_NoOut)))
    (x_NoOut : exB K c_NoOut ["name"] = true)
    (i_NoOut : PySem.W.findIn K (.ref c_NoOut) "__init__" = some (some (.ref f10)))
    (y_NoOut : PySem.W.typeIn K (.ref f10) = some (.type "function"))
    (m_NoRead : PySem.W.nsIn K mainGlobals "NoRead" = some (some (.ref c_NoRead)))
    (x_NoRead : exB K c_NoRead ["name"] = true)
    (i_NoRead : PySem.W.findIn K (.ref c_NoRead) "__init__" = some (some (.ref f11)))
    (y_NoRead : PySem.W.typeIn K (.ref f11) = some (.type "function"))
    (m_TooMany : PySem.W.nsIn K mainGlobals "TooMany" = some (some (.ref c_TooMany)))
    (x_TooMany : exB K c_TooMany ["many"] = true)
    (i_TooMany : PySem.W.findIn K (.ref c_TooMany) "__init__" = some (some (.ref f12)))
    (y_TooMany : PySem.W.typeIn K (.ref f12) = some (.type "function"))
    (m_NoFit : PySem.W.nsIn K mainGlobals "NoFit" = some (some (.ref c_NoFit)))
    (x_NoFit : exB K c_NoFit ["paper"] = true)
    (i_NoFit : PySem.W.findIn K (.ref c_NoFit) "__init__" = some (some (.ref f13)))
    (y_NoFit : PySem.W.typeIn K (.ref f13) = some (.type "function"))
    (m_NoClock : PySem.W.nsIn K mainGlobals "NoClock" = some (some (.ref c_NoClock)))
    (x_NoClock : exB K c_NoClock ["name"] = true)
    (i_NoClock : PySem.W.findIn K (.ref c_NoClock) "__init__" = some (some (.ref f14)))
    (y_NoClock : PySem.W.typeIn K (.ref f14) = some (.type "function"))
    (m_Ring : PySem.W.nsIn K mainGlobals "Ring" = some (some (.ref c_Ring)))
    (x_Ring : exB K c_Ring ["paper"] = true)
    (i_Ring : PySem.W.findIn K (.ref c_Ring) "__init__" = some (some (.ref f15)))
    (y_Ring : PySem.W.typeIn K (.ref f15) = some (.type "function"))
    (m_Hidden : PySem.W.nsIn K mainGlobals "Hidden" = some (some (.ref c_Hidden)))
    (x_Hidden : exB K c_Hidden ["name", "other"] = true)
    (i_Hidden : PySem.W.findIn K (.ref c_Hidden) "__init__" = some (some (.ref f16)))
    (y_Hidden : PySem.W.typeIn K (.ref f16) = some (.type "function"))
    (m_NoArgs : PySem.W.nsIn K mainGlobals "NoArgs" = some (some (.ref c_NoArgs)))
    (x_NoArgs : exB K c_NoArgs ["name", "many"] = true)
    (i_NoArgs : PySem.W.findIn K (.ref c_NoArgs) "__init__" = some (some (.ref f17)))
    (y_NoArgs : PySem.W.typeIn K (.ref f17) = some (.type "function"))
    (m_NoCall : PySem.W.nsIn K mainGlobals "NoCall" = some (some (.ref c_NoCall)))
    (x_NoCall : exB K c_NoCall ["name"] = true)
    (i_NoCall : PySem.W.findIn K (.ref c_NoCall) "__init__" = some (some (.ref f18)))
    (y_NoCall : PySem.W.typeIn K (.ref f18) = some (.type "function"))
    (m_NoInput : PySem.W.nsIn K mainGlobals "NoInput" = some (some (.ref c_NoInput)))
    (x_NoInput : exB K c_NoInput ["name", "beat"] = true)
    (i_NoInput : PySem.W.findIn K (.ref c_NoInput) "__init__" = some (some (.ref f19)))
    (y_NoInput : PySem.W.typeIn K (.ref f19) = some (.type "function"))
    (m_NotYet : PySem.W.nsIn K mainGlobals "NotYet" = some (some (.ref c_NotYet)))
    (x_NotYet : exB K c_NotYet ["name", "other"] = true)
    (i_NotYet : PySem.W.findIn K (.ref c_NotYet) "__init__" = some (some (.ref f20)))
    (y_NotYet : PySem.W.typeIn K (.ref f20) = some (.type "function"))
    (m_NoBeats : PySem.W.nsIn K mainGlobals "NoBeats" = some (some (.ref c_NoBeats)))
    (x_NoBeats : exB K c_NoBeats ["found"] = true)
    (i_NoBeats : PySem.W.findIn K (.ref c_NoBeats) "__init__" = some (some (.ref f21)))
    (y_NoBeats : PySem.W.typeIn K (.ref f21) = some (.type "function"))
    (m_NoCells : PySem.W.nsIn K mainGlobals "NoCells" = some (some (.ref c_NoCells)))
    (x_NoCells : exB K c_NoCells ["found"] = true)
    (i_NoCells : PySem.W.findIn K (.ref c_NoCells) "__init__" = some (some (.ref f22)))
    (y_NoCells : PySem.W.typeIn K (.ref f22) = some (.type "function"))
    (m_NoOrder : PySem.W.nsIn K mainGlobals "NoOrder" = some (some (.ref c_NoOrder)))
    (x_NoOrder : exB K c_NoOrder ["found"] = true)
    (i_NoOrder : PySem.W.findIn K (.ref c_NoOrder) "__init__" = some (some (.ref f23)))
    (y_NoOrder : PySem.W.typeIn K (.ref f23) = some (.type "function"))
    (m_NoLine : PySem.W.nsIn K mainGlobals "NoLine" = some (some (.ref c_NoLine)))
    (x_NoLine : exB K c_NoLine ["line"] = true)
    (i_NoLine : PySem.W.findIn K (.ref c_NoLine) "__init__" = some (some (.ref f24)))
    (y_NoLine : PySem.W.typeIn K (.ref f24) = some (.type "function"))
    (l0 : K.lookup f0 = some ⟨oc0, od0, .func (PySem.W.fnOf "__init__" "NoNumber.__init__" (defArgs s_NoNumber_init) (defBody s_NoNumber_init) (defScope s_NoNumber_init) .none kV0 dc0 pm0 an0 cd0 ct0), sl0⟩) (c0 : PySem.W.codeIn K cd0 "NoNumber.__init__" = true) (k0 : PySem.W.keepIn K (.ref f0) = true)
    (l1 : K.lookup f1 = some ⟨oc1, od1, .func (PySem.W.fnOf "__init__" "NoValue.__init__" (defArgs s_NoValue_init) (defBody s_NoValue_init) (defScope s_NoValue_init) .none kV1 dc1 pm1 an1 cd1 ct1), sl1⟩) (c1 : PySem.W.codeIn K cd1 "NoValue.__init__" = true) (k1 : PySem.W.keepIn K (.ref f1) = true)
    (l2 : K.lookup f2 = some ⟨oc2, od2, .func (PySem.W.fnOf "__init__" "NoName.__init__" (defArgs s_NoName_init) (defBody s_NoName_init) (defScope s_NoName_init) .none kV2 dc2 pm2 an2 cd2 ct2), sl2⟩) (c2 : PySem.W.codeIn K cd2 "NoName.__init__" = true) (k2 : PySem.W.keepIn K (.ref f2) = true)
    (l3 : K.lookup f3 = some ⟨oc3, od3, .func (PySem.W.fnOf "__init__" "NoTerm.__init__" (defArgs s_NoTerm_init) (defBody s_NoTerm_init) (defScope s_NoTerm_init) .none kV3 dc3 pm3 an3 cd3 ct3), sl3⟩) (c3 : PySem.W.codeIn K cd3 "NoTerm.__init__" = true) (k3 : PySem.W.keepIn K (.ref f3) = true)
    (l4 : K.lookup f4 = some ⟨oc4, od4, .func (PySem.W.fnOf "__init__" "NoEquation.__init__" (defArgs s_NoEquation_init) (defBody s_NoEquation_init) (defScope s_NoEquation_init) .none kV4 dc4 pm4 an4 cd4 ct4), sl4⟩) (c4 : PySem.W.codeIn K cd4 "NoEquation.__init__" = true) (k4 : PySem.W.keepIn K (.ref f4) = true)
    (l5 : K.lookup f5 = some ⟨oc5, od5, .func (PySem.W.fnOf "__init__" "NoNode.__init__" (defArgs s_NoNode_init) (defBody s_NoNode_init) (defScope s_NoNode_init) .none kV5 dc5 pm5 an5 cd5 ct5), sl5⟩) (c5 : PySem.W.codeIn K cd5 "NoNode.__init__" = true) (k5 : PySem.W.keepIn K (.ref f5) = true)
    (l6 : K.lookup f6 = some ⟨oc6, od6, .func (PySem.W.fnOf "__init__" "NoProgram.__init__" (defArgs s_NoProgram_init) (defBody s_NoProgram_init) (defScope s_NoProgram_init) .none kV6 dc6 pm6 an6 cd6 ct6), sl6⟩) (c6 : PySem.W.codeIn K cd6 "NoProgram.__init__" = true) (k6 : PySem.W.keepIn K (.ref f6) = true)
    (l7 : K.lookup f7 = some ⟨oc7, od7, .func (PySem.W.fnOf "__init__" "NoText.__init__" (defArgs s_NoText_init) (defBody s_NoText_init) (defScope s_NoText_init) .none kV7 dc7 pm7 an7 cd7 ct7), sl7⟩) (c7 : PySem.W.codeIn K cd7 "NoText.__init__" = true) (k7 : PySem.W.keepIn K (.ref f7) = true)
    (l8 : K.lookup f8 = some ⟨oc8, od8, .func (PySem.W.fnOf "__init__" "Twice.__init__" (defArgs s_Twice_init) (defBody s_Twice_init) (defScope s_Twice_init) .none kV8 dc8 pm8 an8 cd8 ct8), sl8⟩) (c8 : PySem.W.codeIn K cd8 "Twice.__init__" = true) (k8 : PySem.W.keepIn K (.ref f8) = true)
    (l9 : K.lookup f9 = some ⟨oc9, od9, .func (PySem.W.fnOf "__init__" "Unknown.__init__" (defArgs s_Unknown_init) (defBody s_Unknown_init) (defScope s_Unknown_init) .none kV9 dc9 pm9 an9 cd9 ct9), sl9⟩) (c9 : PySem.W.codeIn K cd9 "Unknown.__init__" = true) (k9 : PySem.W.keepIn K (.ref f9) = true)
    (l10 : K.lookup f10 = some ⟨oc10, od10, .func (PySem.W.fnOf "__init__" "NoOut.__init__" (defArgs s_NoOut_init) (defBody s_NoOut_init) (defScope s_NoOut_init) .none kV10 dc10 pm10 an10 cd10 ct10), sl10⟩) (c10 : PySem.W.codeIn K cd10 "NoOut.__init__" = true) (k10 : PySem.W.keepIn K (.ref f10) = true)
    (l11 : K.lookup f11 = some ⟨oc11, od11, .func (PySem.W.fnOf "__init__" "NoRead.__init__" (defArgs s_NoRead_init) (defBody s_NoRead_init) (defScope s_NoRead_init) .none kV11 dc11 pm11 an11 cd11 ct11), sl11⟩) (c11 : PySem.W.codeIn K cd11 "NoRead.__init__" = true) (k11 : PySem.W.keepIn K (.ref f11) = true)
    (l12 : K.lookup f12 = some ⟨oc12, od12, .func (PySem.W.fnOf "__init__" "TooMany.__init__" (defArgs s_TooMany_init) (defBody s_TooMany_init) (defScope s_TooMany_init) .none kV12 dc12 pm12 an12 cd12 ct12), sl12⟩) (c12 : PySem.W.codeIn K cd12 "TooMany.__init__" = true) (k12 : PySem.W.keepIn K (.ref f12) = true)
    (l13 : K.lookup f13 = some ⟨oc13, od13, .func (PySem.W.fnOf "__init__" "NoFit.__init__" (defArgs s_NoFit_init) (defBody s_NoFit_init) (defScope s_NoFit_init) .none kV13 dc13 pm13 an13 cd13 ct13), sl13⟩) (c13 : PySem.W.codeIn K cd13 "NoFit.__init__" = true) (k13 : PySem.W.keepIn K (.ref f13) = true)
    (l14 : K.lookup f14 = some ⟨oc14, od14, .func (PySem.W.fnOf "__init__" "NoClock.__init__" (defArgs s_NoClock_init) (defBody s_NoClock_init) (defScope s_NoClock_init) .none kV14 dc14 pm14 an14 cd14 ct14), sl14⟩) (c14 : PySem.W.codeIn K cd14 "NoClock.__init__" = true) (k14 : PySem.W.keepIn K (.ref f14) = true)
    (l15 : K.lookup f15 = some ⟨oc15, od15, .func (PySem.W.fnOf "__init__" "Ring.__init__" (defArgs s_Ring_init) (defBody s_Ring_init) (defScope s_Ring_init) .none kV15 dc15 pm15 an15 cd15 ct15), sl15⟩) (c15 : PySem.W.codeIn K cd15 "Ring.__init__" = true) (k15 : PySem.W.keepIn K (.ref f15) = true)
    (l16 : K.lookup f16 = some ⟨oc16, od16, .func (PySem.W.fnOf "__init__" "Hidden.__init__" (defArgs s_Hidden_init) (defBody s_Hidden_init) (defScope s_Hidden_init) .none kV16 dc16 pm16 an16 cd16 ct16), sl16⟩) (c16 : PySem.W.codeIn K cd16 "Hidden.__init__" = true) (k16 : PySem.W.keepIn K (.ref f16) = true)
    (l17 : K.lookup f17 = some ⟨oc17, od17, .func (PySem.W.fnOf "__init__" "NoArgs.__init__" (defArgs s_NoArgs_init) (defBody s_NoArgs_init) (defScope s_NoArgs_init) .none kV17 dc17 pm17 an17 cd17 ct17), sl17⟩) (c17 : PySem.W.codeIn K cd17 "NoArgs.__init__" = true) (k17 : PySem.W.keepIn K (.ref f17) = true)
    (l18 : K.lookup f18 = some ⟨oc18, od18, .func (PySem.W.fnOf "__init__" "NoCall.__init__" (defArgs s_NoCall_init) (defBody s_NoCall_init) (defScope s_NoCall_init) .none kV18 dc18 pm18 an18 cd18 ct18), sl18⟩) (c18 : PySem.W.codeIn K cd18 "NoCall.__init__" = true) (k18 : PySem.W.keepIn K (.ref f18) = true)
    (l19 : K.lookup f19 = some ⟨oc19, od19, .func (PySem.W.fnOf "__init__" "NoInput.__init__" (defArgs s_NoInput_init) (defBody s_NoInput_init) (defScope s_NoInput_init) .none kV19 dc19 pm19 an19 cd19 ct19), sl19⟩) (c19 : PySem.W.codeIn K cd19 "NoInput.__init__" = true) (k19 : PySem.W.keepIn K (.ref f19) = true)
    (l20 : K.lookup f20 = some ⟨oc20, od20, .func (PySem.W.fnOf "__init__" "NotYet.__init__" (defArgs s_NotYet_init) (defBody s_NotYet_init) (defScope s_NotYet_init) .none kV20 dc20 pm20 an20 cd20 ct20), sl20⟩) (c20 : PySem.W.codeIn K cd20 "NotYet.__init__" = true) (k20 : PySem.W.keepIn K (.ref f20) = true)
    (l21 : K.lookup f21 = some ⟨oc21, od21, .func (PySem.W.fnOf "__init__" "NoBeats.__init__" (defArgs s_NoBeats_init) (defBody s_NoBeats_init) (defScope s_NoBeats_init) .none kV21 dc21 pm21 an21 cd21 ct21), sl21⟩) (c21 : PySem.W.codeIn K cd21 "NoBeats.__init__" = true) (k21 : PySem.W.keepIn K (.ref f21) = true)
    (l22 : K.lookup f22 = some ⟨oc22, od22, .func (PySem.W.fnOf "__init__" "NoCells.__init__" (defArgs s_NoCells_init) (defBody s_NoCells_init) (defScope s_NoCells_init) .none kV22 dc22 pm22 an22 cd22 ct22), sl22⟩) (c22 : PySem.W.codeIn K cd22 "NoCells.__init__" = true) (k22 : PySem.W.keepIn K (.ref f22) = true)
    (l23 : K.lookup f23 = some ⟨oc23, od23, .func (PySem.W.fnOf "__init__" "NoOrder.__init__" (defArgs s_NoOrder_init) (defBody s_NoOrder_init) (defScope s_NoOrder_init) .none kV23 dc23 pm23 an23 cd23 ct23), sl23⟩) (c23 : PySem.W.codeIn K cd23 "NoOrder.__init__" = true) (k23 : PySem.W.keepIn K (.ref f23) = true)
    (l24 : K.lookup f24 = some ⟨oc24, od24, .func (PySem.W.fnOf "__init__" "NoLine.__init__" (defArgs s_NoLine_init) (defBody s_NoLine_init) (defScope s_NoLine_init) .none kV24 dc24 pm24 an24 cd24 ct24), sl24⟩) (c24 : PySem.W.codeIn K cd24 "NoLine.__init__" = true) (k24 : PySem.W.keepIn K (.ref f24) = true)
    (a25 : PySem.W.nsIn K mainGlobals "_law_cell_at" = some (some (.ref f25))) (l25 : K.lookup f25 = some ⟨oc25, od25, .func (PySem.W.fnOf "_law_cell_at" "_law_cell_at" (defArgs s_cell_at_l) (defBody s_cell_at_l) (defScope s_cell_at_l) .none kV25 dc25 pm25 an25 cd25 ct25), sl25⟩) (c25 : PySem.W.codeIn K cd25 "_law_cell_at" = true) (k25 : PySem.W.keepIn K (.ref f25) = true)
    (a26 : PySem.W.nsIn K mainGlobals "_law_box" = some (some (.ref f26))) (l26 : K.lookup f26 = some ⟨oc26, od26, .func (PySem.W.fnOf "_law_box" "_law_box" (defArgs s_box_l) (defBody s_box_l) (defScope s_box_l) .none kV26 dc26 pm26 an26 cd26 ct26), sl26⟩) (c26 : PySem.W.codeIn K cd26 "_law_box" = true) (k26 : PySem.W.keepIn K (.ref f26) = true)
    (a27 : PySem.W.nsIn K mainGlobals "_law_take" = some (some (.ref f27))) (l27 : K.lookup f27 = some ⟨oc27, od27, .func (PySem.W.fnOf "_law_take" "_law_take" (defArgs s_take_l) (defBody s_take_l) (defScope s_take_l) .none kV27 dc27 pm27 an27 cd27 ct27), sl27⟩) (c27 : PySem.W.codeIn K cd27 "_law_take" = true) (k27 : PySem.W.keepIn K (.ref f27) = true)
    (a28 : PySem.W.nsIn K mainGlobals "_law_thing" = some (some (.ref f28))) (l28 : K.lookup f28 = some ⟨oc28, od28, .func (PySem.W.fnOf "_law_thing" "_law_thing" (defArgs s_thing_l) (defBody s_thing_l) (defScope s_thing_l) .none kV28 dc28 pm28 an28 cd28 ct28), sl28⟩) (c28 : PySem.W.codeIn K cd28 "_law_thing" = true) (k28 : PySem.W.keepIn K (.ref f28) = true)
    (a29 : PySem.W.nsIn K mainGlobals "_law_ones" = some (some (.ref f29))) (l29 : K.lookup f29 = some ⟨oc29, od29, .func (PySem.W.fnOf "_law_ones" "_law_ones" (defArgs s_ones_l) (defBody s_ones_l) (defScope s_ones_l) .none kV29 dc29 pm29 an29 cd29 ct29), sl29⟩) (c29 : PySem.W.codeIn K cd29 "_law_ones" = true) (k29 : PySem.W.keepIn K (.ref f29) = true)
    (a30 : PySem.W.nsIn K mainGlobals "_law_twos" = some (some (.ref f30))) (l30 : K.lookup f30 = some ⟨oc30, od30, .func (PySem.W.fnOf "_law_twos" "_law_twos" (defArgs s_twos_l) (defBody s_twos_l) (defScope s_twos_l) .none kV30 dc30 pm30 an30 cd30 ct30), sl30⟩) (c30 : PySem.W.codeIn K cd30 "_law_twos" = true) (k30 : PySem.W.keepIn K (.ref f30) = true)
    (a31 : PySem.W.nsIn K mainGlobals "_law_kinds" = some (some (.ref f31))) (l31 : K.lookup f31 = some ⟨oc31, od31, .func (PySem.W.fnOf "_law_kinds" "_law_kinds" (defArgs s_kinds_l) (defBody s_kinds_l) (defScope s_kinds_l) .none kV31 dc31 pm31 an31 cd31 ct31), sl31⟩) (c31 : PySem.W.codeIn K cd31 "_law_kinds" = true) (k31 : PySem.W.keepIn K (.ref f31) = true)
    (a32 : PySem.W.nsIn K mainGlobals "_law_same" = some (some (.ref f32))) (l32 : K.lookup f32 = some ⟨oc32, od32, .func (PySem.W.fnOf "_law_same" "_law_same" (defArgs s_same_l) (defBody s_same_l) (defScope s_same_l) .none kV32 dc32 pm32 an32 cd32 ct32), sl32⟩) (c32 : PySem.W.codeIn K cd32 "_law_same" = true) (k32 : PySem.W.keepIn K (.ref f32) = true)
    (a33 : PySem.W.nsIn K mainGlobals "law" = some (some (.ref f33))) (l33 : K.lookup f33 = some ⟨oc33, od33, .func (PySem.W.fnOf "law" "law" (defArgs s_law) (defBody s_law) (defScope s_law) .none kV33 dc33 pm33 an33 cd33 ct33), sl33⟩) (c33 : PySem.W.codeIn K cd33 "law" = true) (k33 : PySem.W.keepIn K (.ref f33) = true)
    (fact_fam : famB K c_BeatError [c_NoNumber, c_NoValue, c_NoName, c_NoTerm, c_NoEquation, c_NoNode, c_NoProgram, c_NoBeats, c_NoCells, c_NoOrder, c_Twice, c_Unknown, c_NoOut, c_NoRead, c_NoClock, c_NoCall, c_NoText, c_TooMany, c_NoFit, c_Ring, c_NoLine, c_Hidden, c_NoArgs, c_NoInput, c_NotYet] = true)
    (n_ValueError : PySem.W.nsIn K mainGlobals "ValueError" = some none)
    (n_all : PySem.W.nsIn K mainGlobals "all" = some none)
    (n_bool : PySem.W.nsIn K mainGlobals "bool" = some none)
    (n_dict : PySem.W.nsIn K mainGlobals "dict" = some none)
    (n_enumerate : PySem.W.nsIn K mainGlobals "enumerate" = some none)
    (n_int : PySem.W.nsIn K mainGlobals "int" = some none)
    (n_isinstance : PySem.W.nsIn K mainGlobals "isinstance" = some none)
    (n_len : PySem.W.nsIn K mainGlobals "len" = some none)
    (n_list : PySem.W.nsIn K mainGlobals "list" = some none)
    (n_max : PySem.W.nsIn K mainGlobals "max" = some none)
    (n_min : PySem.W.nsIn K mainGlobals "min" = some none)
    (n_range : PySem.W.nsIn K mainGlobals "range" = some none)
    (n_zip : PySem.W.nsIn K mainGlobals "zip" = some none)
    : ∃ fd : FuncData, (∀ (s : Shared) (v : Value), BindsTo s fd ⟨[v], []⟩ [("_law_script", v)]) ∧ ∀ base : Heap, K.In base → base.Ns mainGlobals mg → FnOk l.prog w K mg base CX0 4 fa fd ["_law_script"] (sp_law K) := by
  have e := hfa.symm.trans (PySem.W.mg_of X G a33)
  cases e
  have F0 := fun_mk (st := s_NoNumber_init) l0 c0 k0
  have b0 := F0.binds (ps := ["self", "found"]) fun _ _ _ _ _ _ us hl => match us, hl with | [_, _], _ => rfl
  have F1 := fun_mk (st := s_NoValue_init) l1 c1 k1
  have b1 := F1.binds (ps := ["self", "found"]) fun _ _ _ _ _ _ us hl => match us, hl with | [_, _], _ => rfl
  have F2 := fun_mk (st := s_NoName_init) l2 c2 k2
  have b2 := F2.binds (ps := ["self", "found"]) fun _ _ _ _ _ _ us hl => match us, hl with | [_, _], _ => rfl
  have F3 := fun_mk (st := s_NoTerm_init) l3 c3 k3
  have b3 := F3.binds (ps := ["self", "found"]) fun _ _ _ _ _ _ us hl => match us, hl with | [_, _], _ => rfl
  have F4 := fun_mk (st := s_NoEquation_init) l4 c4 k4
  have b4 := F4.binds (ps := ["self", "found"]) fun _ _ _ _ _ _ us hl => match us, hl with | [_, _], _ => rfl
  have F5 := fun_mk (st := s_NoNode_init) l5 c5 k5
  have b5 := F5.binds (ps := ["self", "found"]) fun _ _ _ _ _ _ us hl => match us, hl with | [_, _], _ => rfl
  have F6 := fun_mk (st := s_NoProgram_init) l6 c6 k6
  have b6 := F6.binds (ps := ["self", "found"]) fun _ _ _ _ _ _ us hl => match us, hl with | [_, _], _ => rfl
  have F7 := fun_mk (st := s_NoText_init) l7 c7 k7
  have b7 := F7.binds (ps := ["self", "at"]) fun _ _ _ _ _ _ us hl => match us, hl with | [_, _], _ => rfl
  have F8 := fun_mk (st := s_Twice_init) l8 c8 k8
  have b8 := F8.binds (ps := ["self", "name"]) fun _ _ _ _ _ _ us hl => match us, hl with | [_, _], _ => rfl
  have F9 := fun_mk (st := s_Unknown_init) l9 c9 k9
  have b9 := F9.binds (ps := ["self", "name"]) fun _ _ _ _ _ _ us hl => match us, hl with | [_, _], _ => rfl
  have F10 := fun_mk (st := s_NoOut_init) l10 c10 k10
  have b10 := F10.binds (ps := ["self", "name"]) fun _ _ _ _ _ _ us hl => match us, hl with | [_, _], _ => rfl
  have F11 := fun_mk (st := s_NoRead_init) l11 c11 k11
  have b11 := F11.binds (ps := ["self", "name"]) fun _ _ _ _ _ _ us hl => match us, hl with | [_, _], _ => rfl
  have F12 := fun_mk (st := s_TooMany_init) l12 c12 k12
  have b12 := F12.binds (ps := ["self", "many"]) fun _ _ _ _ _ _ us hl => match us, hl with | [_, _], _ => rfl
  have F13 := fun_mk (st := s_NoFit_init) l13 c13 k13
  have b13 := F13.binds (ps := ["self", "paper"]) fun _ _ _ _ _ _ us hl => match us, hl with | [_, _], _ => rfl
  have F14 := fun_mk (st := s_NoClock_init) l14 c14 k14
  have b14 := F14.binds (ps := ["self", "name"]) fun _ _ _ _ _ _ us hl => match us, hl with | [_, _], _ => rfl
  have F15 := fun_mk (st := s_Ring_init) l15 c15 k15
  have b15 := F15.binds (ps := ["self", "paper"]) fun _ _ _ _ _ _ us hl => match us, hl with | [_, _], _ => rfl
  have F16 := fun_mk (st := s_Hidden_init) l16 c16 k16
  have b16 := F16.binds (ps := ["self", "name", "other"]) fun _ _ _ _ _ _ us hl => match us, hl with | [_, _, _], _ => rfl
  have F17 := fun_mk (st := s_NoArgs_init) l17 c17 k17
  have b17 := F17.binds (ps := ["self", "name", "many"]) fun _ _ _ _ _ _ us hl => match us, hl with | [_, _, _], _ => rfl
  have F18 := fun_mk (st := s_NoCall_init) l18 c18 k18
  have b18 := F18.binds (ps := ["self", "name"]) fun _ _ _ _ _ _ us hl => match us, hl with | [_, _], _ => rfl
  have F19 := fun_mk (st := s_NoInput_init) l19 c19 k19
  have b19 := F19.binds (ps := ["self", "name", "beat"]) fun _ _ _ _ _ _ us hl => match us, hl with | [_, _, _], _ => rfl
  have F20 := fun_mk (st := s_NotYet_init) l20 c20 k20
  have b20 := F20.binds (ps := ["self", "name", "other"]) fun _ _ _ _ _ _ us hl => match us, hl with | [_, _, _], _ => rfl
  have F21 := fun_mk (st := s_NoBeats_init) l21 c21 k21
  have b21 := F21.binds (ps := ["self", "found"]) fun _ _ _ _ _ _ us hl => match us, hl with | [_, _], _ => rfl
  have F22 := fun_mk (st := s_NoCells_init) l22 c22 k22
  have b22 := F22.binds (ps := ["self", "found"]) fun _ _ _ _ _ _ us hl => match us, hl with | [_, _], _ => rfl
  have F23 := fun_mk (st := s_NoOrder_init) l23 c23 k23
  have b23 := F23.binds (ps := ["self", "found"]) fun _ _ _ _ _ _ us hl => match us, hl with | [_, _], _ => rfl
  have F24 := fun_mk (st := s_NoLine_init) l24 c24 k24
  have b24 := F24.binds (ps := ["self", "line"]) fun _ _ _ _ _ _ us hl => match us, hl with | [_, _], _ => rfl
  have F25 := fun_mk (st := s_cell_at_l) l25 c25 k25
  have b25 := F25.binds (ps := ["_law_script", "_law_k"]) fun _ _ _ _ _ _ us hl => match us, hl with | [_, _], _ => rfl
  have F26 := fun_mk (st := s_box_l) l26 c26 k26
  have b26 := F26.binds (ps := ["_law_cell"]) fun _ _ _ _ _ _ us hl => match us, hl with | [_], _ => rfl
  have F27 := fun_mk (st := s_take_l) l27 c27 k27
  have b27 := F27.binds (ps := ["_law_box_here", "_law_many"]) fun _ _ _ _ _ _ us hl => match us, hl with | [_, _], _ => rfl
  have F28 := fun_mk (st := s_thing_l) l28 c28 k28
  have b28 := F28.binds (ps := ["_law_box_here"]) fun _ _ _ _ _ _ us hl => match us, hl with | [_], _ => rfl
  have F29 := fun_mk (st := s_ones_l) l29 c29 k29
  have b29 := F29.binds (ps := ["_law_one"]) fun _ _ _ _ _ _ us hl => match us, hl with | [_], _ => rfl
  have F30 := fun_mk (st := s_twos_l) l30 c30 k30
  have b30 := F30.binds (ps := ["_law_one", "_law_other"]) fun _ _ _ _ _ _ us hl => match us, hl with | [_, _], _ => rfl
  have F31 := fun_mk (st := s_kinds_l) l31 c31 k31
  have b31 := F31.binds (ps := ["_law_e"]) fun _ _ _ _ _ _ us hl => match us, hl with | [_], _ => rfl
  have F32 := fun_mk (st := s_same_l) l32 c32 k32
  have b32 := F32.binds (ps := ["_law_found", "_law_due"]) fun _ _ _ _ _ _ us hl => match us, hl with | [_, _], _ => rfl
  have F33 := fun_mk (st := s_law) l33 c33 k33
  have b33 := F33.binds (ps := ["_law_script"]) fun _ _ _ _ _ _ us hl => match us, hl with | [_], _ => rfl
  have T : Txt K mg ⟨f0, _, f1, _, f2, _, f3, _, f4, _, f5, _, f6, _, f7, _, f8, _, f9, _, f10, _, f11, _, f12, _, f13, _, f14, _, f15, _, f16, _, f17, _, f18, _, f19, _, f20, _, f21, _, f22, _, f23, _, f24, _, f25, _, f26, _, f27, _, f28, _, f29, _, f30, _, f31, _, f32, _, fa, _, c_BeatError, c_NoNumber, c_NoValue, c_NoName, c_NoTerm, c_NoEquation, c_NoNode, c_NoProgram, c_NoText, c_Twice, c_Unknown, c_NoOut, c_NoRead, c_TooMany, c_NoFit, c_NoClock, c_Ring, c_Hidden, c_NoArgs, c_NoCall, c_NoInput, c_NotYet, c_NoBeats, c_NoCells, c_NoOrder, c_NoLine⟩ := ⟨F0, b0, F1, b1, F2, b2, F3, b3, F4, b4, F5, b5, F6, b6, F7, b7, F8, b8, F9, b9, F10, b10, F11, b11, F12, b12, F13, b13, F14, b14, F15, b15, F16, b16, F17, b17, F18, b18, F19, b19, F20, b20, F21, b21, F22, b22, F23, b23, F24, b24, F25, b25, PySem.W.mg_of X G a25, F26, b26, PySem.W.mg_of X G a26, F27, b27, PySem.W.mg_of X G a27, F28, b28, PySem.W.mg_of X G a28, F29, b29, PySem.W.mg_of X G a29, F30, b30, PySem.W.mg_of X G a30, F31, b31, PySem.W.mg_of X G a31, F32, b32, PySem.W.mg_of X G a32, F33, b33, PySem.W.mg_of X G a33, PySem.W.mg_of X G m_BeatError, q_BeatError, e_BeatError, k_BeatError, w_BeatError, PySem.W.mg_of X G m_NoNumber, x_NoNumber, i_NoNumber, y_NoNumber, PySem.W.mg_of X G m_NoValue, x_NoValue, i_NoValue, y_NoValue, PySem.W.mg_of X G m_NoName, x_NoName, i_NoName, y_NoName, PySem.W.mg_of X G m_NoTerm, x_NoTerm, i_NoTerm, y_NoTerm, PySem.W.mg_of X G m_NoEquation, x_NoEquation, i_NoEquation, y_NoEquation, PySem.W.mg_of X G m_NoNode, x_NoNode, i_NoNode, y_NoNode, PySem.W.mg_of X G m_NoProgram, x_NoProgram, i_NoProgram, y_NoProgram, PySem.W.mg_of X G m_NoText, x_NoText, i_NoText, y_NoText, PySem.W.mg_of X G m_Twice, x_Twice, i_Twice, y_Twice, PySem.W.mg_of X G m_Unknown, x_Unknown, i_Unknown, y_Unknown, PySem.W.mg_of X G m_NoOut, x_NoOut, i_NoOut, y_NoOut, PySem.W.mg_of X G m_NoRead, x_NoRead, i_NoRead, y_NoRead, PySem.W.mg_of X G m_TooMany, x_TooMany, i_TooMany, y_TooMany, PySem.W.mg_of X G m_NoFit, x_NoFit, i_NoFit, y_NoFit, PySem.W.mg_of X G m_NoClock, x_NoClock, i_NoClock, y_NoClock, PySem.W.mg_of X G m_Ring, x_Ring, i_Ring, y_Ring, PySem.W.mg_of X G m_Hidden, x_Hidden, i_Hidden, y_Hidden, PySem.W.mg_of X G m_NoArgs, x_NoArgs, i_NoArgs, y_NoArgs, PySem.W.mg_of X G m_NoCall, x_NoCall, i_NoCall, y_NoCall, PySem.W.mg_of X G m_NoInput, x_NoInput, i_NoInput, y_NoInput, PySem.W.mg_of X G m_NotYet, x_NotYet, i_NotYet, y_NotYet, PySem.W.mg_of X G m_NoBeats, x_NoBeats, i_NoBeats, y_NoBeats, PySem.W.mg_of X G m_NoCells, x_NoCells, i_NoCells, y_NoCells, PySem.W.mg_of X G m_NoOrder, x_NoOrder, i_NoOrder, y_NoOrder, PySem.W.mg_of X G m_NoLine, x_NoLine, i_NoLine, y_NoLine, fact_fam, PySem.W.mg_none_of X G n_ValueError, PySem.W.mg_none_of X G n_all, PySem.W.mg_none_of X G n_bool, PySem.W.mg_none_of X G n_dict, PySem.W.mg_none_of X G n_enumerate, PySem.W.mg_none_of X G n_int, PySem.W.mg_none_of X G n_isinstance, PySem.W.mg_none_of X G n_len, PySem.W.mg_none_of X G n_list, PySem.W.mg_none_of X G n_max, PySem.W.mg_none_of X G n_min, PySem.W.mg_none_of X G n_range, PySem.W.mg_none_of X G n_zip⟩
  exact ⟨_, fun s v => .of_eq rfl, fun base _ _ => ok_law T⟩
theorem walk {l : PySem.W.OpenLaw} {q : Program} {loose : List Str} {XP : (Str → Option Value) → Heap → Prop} {YP : World → Heap → Prop} {d : DefRec} {K : Params → PySem.W.Frag} (hn : l.most = some 63) (hdf : d.params.defaults = [])
    (hY : ∀ (w : World) (h : Heap), YP w h → (K w.params).In h)
    (F : ∀ (w : World) (mg : Str → Option Value) (fa : Addr) (h : Heap), (K w.params).In h → h.Ns mainGlobals mg → mg d.name = some (.ref fa) →
      ∃ fd : FuncData, (∀ (s : Shared) (u : Value), BindsTo s fd ⟨[u], []⟩ [("_law_script", u)]) ∧ ∀ base : Heap, (K w.params).In base → base.Ns mainGlobals mg → FnOk l.prog w (K w.params) mg base CX0 4 fa fd ["_law_script"] (sp_law (K w.params))) :
    PySem.W.WalkO q loose XP YP l.row.toRowW d [] (fun f vs => PySem.call f vs) :=
  L2.walk_of (n := 63) (k := 4) (x := "_law_script") (CX := fun _ => CX0) (sp := fun w => sp_law (K w.params)) hn (by decide) hdf ⟨rfl, by decide, by decide⟩ hY F (fun _ _ a ns hl _ hS => ⟨a, ns, rfl, hS, hl, fun _ => rfl⟩) fun _ _ _ _ _ z => z
end Toy

open PySem PySem.W PyProof.Rows in
set_option maxRecDepth 100000 in
set_option maxHeartbeats 0 in
theorem PySem.Challenge.cw_beatrows_k15_refusals_apart_holds : PySem.Challenge.rw_beatrows_k15_refusals_apart.Holds := by
  w_on; o_law; k_head; (case hw => w_witness2)
  k_fill
  refine Toy.walk (l := PySem.Challenge.rw_beatrows_k15_refusals_apart) rfl rfl (fun w h Y => PySem.W.kIn_of Y) ?F
  case F =>
    intro w mg fa h KX G hmg
    refine' Toy.all_mk KX G hmg ?m_BeatError ?q_BeatError ?e_BeatError ?k_BeatError ?w_BeatError ?m_NoNumber ?x_NoNumber ?i_NoNumber ?y_NoNumber ?m_NoValue ?x_NoValue ?i_NoValue ?y_NoValue ?m_NoName ?x_NoName ?i_NoName ?y_NoName ?m_NoTerm ?x_NoTerm ?i_NoTerm ?y_NoTerm ?m_NoEquation ?x_NoEquation ?i_NoEquation ?y_NoEquation ?m_NoNode ?x_NoNode ?i_NoNode ?y_NoNode ?m_NoProgram ?x_NoProgram ?i_NoProgram ?y_NoProgram ?m_NoText ?x_NoText ?i_NoText ?y_NoText ?m_Twice ?x_Twice ?i_Twice ?y_Twice ?m_Unknown ?x_Unknown ?i_Unknown ?y_Unknown ?m_NoOut ?x_NoOut ?i_NoOut ?y_NoOut ?m_NoRead ?x_NoRead ?i_NoRead ?y_NoRead ?m_TooMany ?x_TooMany ?i_TooMany ?y_TooMany ?m_NoFit ?x_NoFit ?i_NoFit ?y_NoFit ?m_NoClock ?x_NoClock ?i_NoClock ?y_NoClock ?m_Ring ?x_Ring ?i_Ring ?y_Ring ?m_Hidden ?x_Hidden ?i_Hidden ?y_Hidden ?m_NoArgs ?x_NoArgs ?i_NoArgs ?y_NoArgs ?m_NoCall ?x_NoCall ?i_NoCall ?y_NoCall ?m_NoInput ?x_NoInput ?i_NoInput ?y_NoInput ?m_NotYet ?x_NotYet ?i_NotYet ?y_NotYet ?m_NoBeats ?x_NoBeats ?i_NoBeats ?y_NoBeats ?m_NoCells ?x_NoCells ?i_NoCells ?y_NoCells ?m_NoOrder ?x_NoOrder ?i_NoOrder ?y_NoOrder ?m_NoLine ?x_NoLine ?i_NoLine ?y_NoLine ?l0 ?c0 ?k0 ?l1 ?c1 ?k1 ?l2 ?c2 ?k2 ?l3 ?c3 ?k3 ?l4 ?c4 ?k4 ?l5 ?c5 ?k5 ?l6 ?c6 ?k6 ?l7 ?c7 ?k7 ?l8 ?c8 ?k8 ?l9 ?c9 ?k9 ?l10 ?c10 ?k10 ?l11 ?c11 ?k11 ?l12 ?c12 ?k12 ?l13 ?c13 ?k13 ?l14 ?c14 ?k14 ?l15 ?c15 ?k15 ?l16 ?c16 ?k16 ?l17 ?c17 ?k17 ?l18 ?c18 ?k18 ?l19 ?c19 ?k19 ?l20 ?c20 ?k20 ?l21 ?c21 ?k21 ?l22 ?c22 ?k22 ?l23 ?c23 ?k23 ?l24 ?c24 ?k24 ?a25 ?l25 ?c25 ?k25 ?a26 ?l26 ?c26 ?k26 ?a27 ?l27 ?c27 ?k27 ?a28 ?l28 ?c28 ?k28 ?a29 ?l29 ?c29 ?k29 ?a30 ?l30 ?c30 ?k30 ?a31 ?l31 ?c31 ?k31 ?a32 ?l32 ?c32 ?k32 ?a33 ?l33 ?c33 ?k33 ?fact_fam ?n_ValueError ?n_all ?n_bool ?n_dict ?n_enumerate ?n_int ?n_isinstance ?n_len ?n_list ?n_max ?n_min ?n_range ?n_zip
    (case m_BeatError => k_is)
    (case q_BeatError => kernel_rfl)
    (case e_BeatError => kernel_rfl)
    (case k_BeatError => k_is)
    (case w_BeatError => kernel_rfl)
    (case m_NoNumber => k_is)
    (case x_NoNumber => kernel_rfl)
    (case i_NoNumber => k_is)
    (case y_NoNumber => k_is)
    (case m_NoValue => k_is)
    (case x_NoValue => kernel_rfl)
    (case i_NoValue => k_is)
    (case y_NoValue => k_is)
    (case m_NoName => k_is)
    (case x_NoName => kernel_rfl)
    (case i_NoName => k_is)
    (case y_NoName => k_is)
    (case m_NoTerm => k_is)
    (case x_NoTerm => kernel_rfl)
    (case i_NoTerm => k_is)
    (case y_NoTerm => k_is)
    (case m_NoEquation => k_is)
    (case x_NoEquation => kernel_rfl)
    (case i_NoEquation => k_is)
    (case y_NoEquation => k_is)
    (case m_NoNode => k_is)
    (case x_NoNode => kernel_rfl)
    (case i_NoNode => k_is)
    (case y_NoNode => k_is)
    (case m_NoProgram => k_is)
    (case x_NoProgram => kernel_rfl)
    (case i_NoProgram => k_is)
    (case y_NoProgram => k_is)
    (case m_NoText => k_is)
    (case x_NoText => kernel_rfl)
    (case i_NoText => k_is)
    (case y_NoText => k_is)
    (case m_Twice => k_is)
    (case x_Twice => kernel_rfl)
    (case i_Twice => k_is)
    (case y_Twice => k_is)
    (case m_Unknown => k_is)
    (case x_Unknown => kernel_rfl)
    (case i_Unknown => k_is)
    (case y_Unknown => k_is)
    (case m_NoOut => k_is)
    (case x_NoOut => kernel_rfl)
    (case i_NoOut => k_is)
    (case y_NoOut => k_is)
    (case m_NoRead => k_is)
    (case x_NoRead => kernel_rfl)
    (case i_NoRead => k_is)
    (case y_NoRead => k_is)
    (case m_TooMany => k_is)
    (case x_TooMany => kernel_rfl)
    (case i_TooMany => k_is)
    (case y_TooMany => k_is)
    (case m_NoFit => k_is)
    (case x_NoFit => kernel_rfl)
    (case i_NoFit => k_is)
    (case y_NoFit => k_is)
    (case m_NoClock => k_is)
    (case x_NoClock => kernel_rfl)
    (case i_NoClock => k_is)
    (case y_NoClock => k_is)
    (case m_Ring => k_is)
    (case x_Ring => kernel_rfl)
    (case i_Ring => k_is)
    (case y_Ring => k_is)
    (case m_Hidden => k_is)
    (case x_Hidden => kernel_rfl)
    (case i_Hidden => k_is)
    (case y_Hidden => k_is)
    (case m_NoArgs => k_is)
    (case x_NoArgs => kernel_rfl)
    (case i_NoArgs => k_is)
    (case y_NoArgs => k_is)
    (case m_NoCall => k_is)
    (case x_NoCall => kernel_rfl)
    (case i_NoCall => k_is)
    (case y_NoCall => k_is)
    (case m_NoInput => k_is)
    (case x_NoInput => kernel_rfl)
    (case i_NoInput => k_is)
    (case y_NoInput => k_is)
    (case m_NotYet => k_is)
    (case x_NotYet => kernel_rfl)
    (case i_NotYet => k_is)
    (case y_NotYet => k_is)
    (case m_NoBeats => k_is)
    (case x_NoBeats => kernel_rfl)
    (case i_NoBeats => k_is)
    (case y_NoBeats => k_is)
    (case m_NoCells => k_is)
    (case x_NoCells => kernel_rfl)
    (case i_NoCells => k_is)
    (case y_NoCells => k_is)
    (case m_NoOrder => k_is)
    (case x_NoOrder => kernel_rfl)
    (case i_NoOrder => k_is)
    (case y_NoOrder => k_is)
    (case m_NoLine => k_is)
    (case x_NoLine => kernel_rfl)
    (case i_NoLine => k_is)
    (case y_NoLine => k_is)
    (case l0 => k_is)
    (case c0 => k_is)
    (case k0 => k_is)
    (case l1 => k_is)
    (case c1 => k_is)
    (case k1 => k_is)
    (case l2 => k_is)
    (case c2 => k_is)
    (case k2 => k_is)
    (case l3 => k_is)
    (case c3 => k_is)
    (case k3 => k_is)
    (case l4 => k_is)
    (case c4 => k_is)
    (case k4 => k_is)
    (case l5 => k_is)
    (case c5 => k_is)
    (case k5 => k_is)
    (case l6 => k_is)
    (case c6 => k_is)
    (case k6 => k_is)
    (case l7 => k_is)
    (case c7 => k_is)
    (case k7 => k_is)
    (case l8 => k_is)
    (case c8 => k_is)
    (case k8 => k_is)
    (case l9 => k_is)
    (case c9 => k_is)
    (case k9 => k_is)
    (case l10 => k_is)
    (case c10 => k_is)
    (case k10 => k_is)
    (case l11 => k_is)
    (case c11 => k_is)
    (case k11 => k_is)
    (case l12 => k_is)
    (case c12 => k_is)
    (case k12 => k_is)
    (case l13 => k_is)
    (case c13 => k_is)
    (case k13 => k_is)
    (case l14 => k_is)
    (case c14 => k_is)
    (case k14 => k_is)
    (case l15 => k_is)
    (case c15 => k_is)
    (case k15 => k_is)
    (case l16 => k_is)
    (case c16 => k_is)
    (case k16 => k_is)
    (case l17 => k_is)
    (case c17 => k_is)
    (case k17 => k_is)
    (case l18 => k_is)
    (case c18 => k_is)
    (case k18 => k_is)
    (case l19 => k_is)
    (case c19 => k_is)
    (case k19 => k_is)
    (case l20 => k_is)
    (case c20 => k_is)
    (case k20 => k_is)
    (case l21 => k_is)
    (case c21 => k_is)
    (case k21 => k_is)
    (case l22 => k_is)
    (case c22 => k_is)
    (case k22 => k_is)
    (case l23 => k_is)
    (case c23 => k_is)
    (case k23 => k_is)
    (case l24 => k_is)
    (case c24 => k_is)
    (case k24 => k_is)
    (case a25 => k_is)
    (case l25 => k_is)
    (case c25 => k_is)
    (case k25 => k_is)
    (case a26 => k_is)
    (case l26 => k_is)
    (case c26 => k_is)
    (case k26 => k_is)
    (case a27 => k_is)
    (case l27 => k_is)
    (case c27 => k_is)
    (case k27 => k_is)
    (case a28 => k_is)
    (case l28 => k_is)
    (case c28 => k_is)
    (case k28 => k_is)
    (case a29 => k_is)
    (case l29 => k_is)
    (case c29 => k_is)
    (case k29 => k_is)
    (case a30 => k_is)
    (case l30 => k_is)
    (case c30 => k_is)
    (case k30 => k_is)
    (case a31 => k_is)
    (case l31 => k_is)
    (case c31 => k_is)
    (case k31 => k_is)
    (case a32 => k_is)
    (case l32 => k_is)
    (case c32 => k_is)
    (case k32 => k_is)
    (case a33 => k_is)
    (case l33 => k_is)
    (case c33 => k_is)
    (case k33 => k_is)
    (case fact_fam => kernel_rfl)
    (case n_ValueError => k_is)
    (case n_all => k_is)
    (case n_bool => k_is)
    (case n_dict => k_is)
    (case n_enumerate => k_is)
    (case n_int => k_is)
    (case n_isinstance => k_is)
    (case n_len => k_is)
    (case n_list => k_is)
    (case n_max => k_is)
    (case n_min => k_is)
    (case n_range => k_is)
    (case n_zip => k_is)
