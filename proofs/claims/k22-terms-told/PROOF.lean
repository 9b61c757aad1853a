import PyProof.Rows.All
import Wide.All
import OpenK.AllK
import Wide.FinOn
import KE.KExcIs
import HandS.ForMost
import HandS.IsInst
import HandS.Flow
import HandS.Evl
import HandS.Walk
import HandS.Replace
import HandS.Deep
import HandS.SortKw
import HandS.More
import KE.DatumOrd
import HandS.DeepEq
import KE.KEqDict
import HandS.Exc
import HandS.ExcField
import HandS.ExcInit
import HandS.ExcValue
import PySem.Challenge.RW_beatrows_k22_terms_told
set_option Elab.async false
set_option linter.all false
set_option maxRecDepth 100000
set_option maxHeartbeats 4000000
/-! ### own small rules -/
namespace L2
open PySem PySem.Spec PyProof.Rows
section
variable {X : Cx}
theorem pe_gcst {x : Str} {v : V} {pos : Pos} (hg : Gl X x) (h : ∃ u, X.mg x = some u ∧ RelV v u) (hd : (x == ("__debug__" : Str)) = false := by decide) : PE X (.Name x pos) (tC v) :=
  let ⟨_, hm, r⟩ := h
  pe_glob hg hm r hd
/-- divmod by any divisor but nought, below 2^30 -/
theorem call_divmodN : CallR X (.builtin "divmod") (fun xs H Q => ∃ i j : Int, xs = [.int i, .int j] ∧ CDivN i j ∧ ∀ p, H p = none → Q (.ref p) (upd H p (.tup [.int (i.fdiv j), .int (i.fmod j)]))) := by
  intro pins s σ H xs us Q I r h
  obtain ⟨i, j, rfl, ⟨h1, h2⟩, q⟩ := h
  obtain ⟨u, w', rfl, ⟨t, rfl⟩, ⟨t', rfl⟩⟩ := vals2 r
  refine divmod_int h1 ?_ (.inl (PyProof.noPylong_small h2))
  have hn := I.hok.fresh (Nat.le_refl s.heap.objs.size)
  refine ⟨.ref s.heap.objs.size, upd H s.heap.objs.size (.tup [.int (i.fdiv j), .int (i.fmod j)]), ?_, rfl, q _ hn⟩
  refine I.laid (fun b o e => Heap.get?_push_of_some _ e) (Nat.le_refl _) ?_
  refine ⟨by show 2 ≤ sizeLine; decide, [.int (i.fdiv j) s.toks, .int (i.fmod j) (s.toks + 1)], ?_, ?_⟩
  · exact .cons ⟨_, rfl⟩ (.cons ⟨_, rfl⟩ .nil)
  · exact ⟨_, Heap.get?_push_size s.heap rfl, rfl, 0, rfl⟩
end
/-- a new tuple, a new list of these, all else kept -/
def RetT (xs : List V) (H : Hp) (Q : VK) : Prop := ∀ p H2, H p = none → Evl.Ex H H2 → H2 p = some (.tup xs) → Q (.ref p) H2
def RetL (xs : List V) (H : Hp) (Q : VK) : Prop := ∀ p H2, H p = none → Evl.Ex H H2 → H2 p = some (.lst xs) → Q (.ref p) H2
def RetV (v : V) (H : Hp) (Q : VK) : Prop := ∀ H2, Evl.Ex H H2 → Q v H2
theorem RetT.up {xs : List V} {H0 H : Hp} {Q : VK} (k : RetT xs H0 Q) (e : Evl.Ex H0 H) : RetT xs H Q := fun p H2 hp e2 h2 => k p H2 (Evl.fresh_back e hp) (e.trans e2) h2
theorem RetL.up {xs : List V} {H0 H : Hp} {Q : VK} (k : RetL xs H0 Q) (e : Evl.Ex H0 H) : RetL xs H Q := fun p H2 hp e2 h2 => k p H2 (Evl.fresh_back e hp) (e.trans e2) h2
theorem RetV.up {v : V} {H0 H : Hp} {Q : VK} (k : RetV v H0 Q) (e : Evl.Ex H0 H) : RetV v H Q := fun H2 e2 => k H2 (e.trans e2)
def NewT (xs : List V) (H : Hp) (Q : VK) : Prop := xs.length ≤ sizeLine ∧ ∀ p, H p = none → Q (.ref p) (upd H p (.tup xs))
def NewL (xs : List V) (H : Hp) (Q : VK) : Prop := xs.length ≤ sizeLine ∧ ∀ p, H p = none → Q (.ref p) (upd H p (.lst xs))
theorem newT {xs : List V} {H : Hp} {Q : VK} (k : RetT xs H Q) (hz : xs.length ≤ 100000 := by exact Nat.le_of_ble_eq_true rfl) : NewT xs H Q := ⟨Evl.sz_of hz, fun p hp => k p _ hp (Evl.Ex.new hp) upd_same⟩
theorem newL {xs : List V} {H : Hp} {Q : VK} (k : RetL xs H Q) (hz : xs.length ≤ 100000 := by exact Nat.le_of_ble_eq_true rfl) : NewL xs H Q := ⟨Evl.sz_of hz, fun p hp => k p _ hp (Evl.Ex.new hp) upd_same⟩
theorem if_tt {c : Bool} {A B : Prop} (hc : c = true) (h : A) : if c = true then A else B := by rw [if_pos hc]; exact h
theorem if_ff {c : Bool} {A B : Prop} (hc : c = false) (h : B) : if c = true then A else B := by rw [hc]; exact iteF h
theorem if_nt {A B : Prop} (h : B) : if (!true) = true then A else B := iteF h
theorem if_nf {A B : Prop} (h : A) : if (!false) = true then A else B := iteT h
theorem if_cs {c : Bool} {A B : Prop} (h1 : c = true → A) (h2 : c = false → B) : if c = true then A else B := by
  cases c with
  | true => exact iteT (h1 rfl)
  | false => exact iteF (h2 rfl)
theorem kb_ii : kitB "int" "int" = some true := by decide +kernel
theorem kb_bi : kitB "bool" "int" = some true := by decide +kernel
theorem kb_ib : kitB "int" "bool" = some false := by decide +kernel
theorem kb_bb : kitB "bool" "bool" = some true := by decide +kernel
theorem ty_int {K : PySem.W.Frag} {H : Hp} (i : Int) : TyX K H (.int i) (.type "int") := .base (.int i)
theorem ty_bl {K : PySem.W.Frag} {H : Hp} (b : Bool) : TyX K H (.bl b) (.type "bool") := .base (.bl b)
theorem ty_str {K : PySem.W.Frag} {H : Hp} (b : Str) : TyX K H (.str b) (.type "str") := .base (.str b)
theorem ty_non {K : PySem.W.Frag} {H : Hp} : TyX K H .non (.type "NoneType") := .base .non
theorem ty_tup {K : PySem.W.Frag} {H : Hp} {a : Addr} {xs : List V} (h : H a = some (.tup xs)) : TyX K H (.ref a) (.type "tuple") := .base (.tup h)
theorem ty_lst {K : PySem.W.Frag} {H : Hp} {a : Addr} {xs : List V} (h : H a = some (.lst xs)) : TyX K H (.ref a) (.type "list") := .base (.lst h)
/-- isinstance of a thing of a built-in type -/
theorem isi {K : PySem.W.Frag} {H : Hp} {Q : VK} {x : V} {a b : String} {r : Bool} (h : TyX K H x (.type a)) (e : kitB a b = some r) (q : Q (.bl r) H) : rIsi K [x, .ty b] H Q :=
  ⟨x, .ty b, .type a, .type b, r, rfl, .ty b, h, kit_ty e, q⟩
end L2

/-! ### readings, one step each (the goal's head tells which) -/
namespace L2
open PySem PySem.Spec PyProof.Rows
section
variable {K : PySem.W.Frag} {σ : St} {H : Hp} {Q : VK} {B : Bool → Hp → Prop} {ta tb tc te : TE} {t u : TT} {tA : TA} {D : Ends} {s1 s2 : TS} {g : TG} {gs : TGs} {v : V} {r : R2}
theorem c_var {i : Nat} (h : σ[i]? = some (some v)) (q : Q v H) : tVar i σ H Q := ⟨v, h, q⟩
theorem c_c (q : Q v H) : tC v σ H Q := q
theorem c_op (h : ta σ H fun x H1 => tb σ H1 fun y H2 => r x y H2 Q) : tOp r ta tb σ H Q := h
theorem c_un {f : V → Hp → VK → Prop} (h : ta σ H fun x H1 => f x H1 Q) : tUn f ta σ H Q := h
theorem c_test (h : te σ H fun x H1 => ∃ k, x = .bl k ∧ B k H1) : tTest te σ H B := h
theorem c_b (h : te σ H fun x H1 => ∃ k, x = .bl k ∧ B k H1) : tB te σ H B := h
theorem c_and (h : t σ H fun c H1 => if c = true then u σ H1 B else B false H1) : tAnd t u σ H B := h
theorem c_or (h : t σ H fun c H1 => if c = true then B true H1 else u σ H1 B) : tOr t u σ H B := h
theorem c_not (h : t σ H fun c H1 => B (!c) H1) : tNot t σ H B := h
theorem c_andV (h : ta σ H fun x H1 => ∃ c, x = .bl c ∧ if c = true then tb σ H1 Q else Q (.bl false) H1) : tAndV ta tb σ H Q := h
theorem c_orV (h : ta σ H fun x H1 => ∃ c, x = .bl c ∧ if c = true then Q (.bl true) H1 else tb σ H1 Q) : tOrV ta tb σ H Q := h
theorem c_notV (h : ta σ H fun x H1 => ∃ c, x = .bl c ∧ Q (.bl (!c)) H1) : tNotV ta σ H Q := h
theorem c_if (h : t σ H fun c H1 => if c = true then ta σ H1 Q else tb σ H1 Q) : tIf t ta tb σ H Q := h
theorem c_orT (h : ta σ H fun x H1 => ∃ k, TruV K x H1 k ∧ if k = true then Q x H1 else tb σ H1 Q) : tOrT K ta tb σ H Q := h
theorem c_andT (h : ta σ H fun x H1 => ∃ k, TruV K x H1 k ∧ if k = true then tb σ H1 Q else Q x H1) : tAndT K ta tb σ H Q := h
theorem c_notT (h : ta σ H fun x H1 => ∃ k, TruV K x H1 k ∧ Q (.bl (!k)) H1) : tNotT K ta σ H Q := h
theorem c_yes (h : B true H) : tYes σ H B := h
theorem c_nil {q : List V → Hp → Prop} (h : q [] H) : tNil σ H q := h
theorem c_cons {q : List V → Hp → Prop} (h : ta σ H fun x H1 => tA σ H1 fun xs H2 => q (x :: xs) H2) : tCons ta tA σ H q := h
theorem c_tup (h : tA σ H fun xs H1 => NewT xs H1 Q) : tTup tA σ H Q := h
theorem c_lst (h : tA σ H fun xs H1 => NewL xs H1 Q) : tLst tA σ H Q := h
theorem c_call {sp : Sp} {E : XK} (h : tA σ H fun vs H1 => sp vs H1 Q E) : tCall sp [] E tA σ H Q := by
  show tA σ H fun vs H1 => sp (vs ++ []) H1 Q E
  simp only [List.append_nil]
  exact h
theorem c_cb {f : List V → Hp → VK → Prop} (h : tA σ H fun vs H1 => f vs H1 Q) : tCB f tA σ H Q := h
theorem c_sl {f : V → Option Int → Option Int → Hp → VK → Prop} {tl th : TO} (h : te σ H fun x H1 => tl σ H1 fun l H2 => th σ H2 fun u H3 => f x l u H3 Q) : tSl f te tl th σ H Q := h
theorem c_noPart {q : Option Int → Hp → Prop} (h : q none H) : tNoPart σ H q := h
theorem c_part {q : Option Int → Hp → Prop} (h : te σ H fun x H1 => ∃ i, x = .int i ∧ q (some i) H1) : tPart te σ H q := h
theorem c_bm {T : String} {f : V → List V → Hp → VK → Prop} (h : te σ H fun x H1 => tyV K T x H1 ∧ tA σ H1 fun xs H2 => f x xs H2 Q) : tBM K T f te tA σ H Q := h
theorem c_bm0 {T : String} {f : V → List V → Hp → VK → Prop} (h : te σ H fun x H1 => tyV K T x H1 ∧ f x [] H1 Q) : tBM0 K T f te σ H Q := h
theorem c_m0 {f : V → List V → Hp → VK → Prop} (h : te σ H fun x H1 => (∃ a, x = .str a) ∧ f x [] H1 Q) : tM0 f te σ H Q := h
theorem c_m1 {f : V → List V → Hp → VK → Prop} (h : ta σ H fun x H1 => (∃ a, x = .str a) ∧ tb σ H1 fun y H2 => f x [y] H2 Q) : tM1 f ta tb σ H Q := h
theorem c_chain {r' : R2} (h : ta σ H fun x H1 => tb σ H1 fun y H2 => r x y H2 fun z H3 => ∃ k, z = .bl k ∧ (if k = true then tc σ H3 fun w' H4 => r' y w' H4 Q else Q (.bl false) H3)) : tChain r r' ta tb tc σ H Q := h
/-! statements -/
theorem c_next (h : D.nx σ H) : tNext D σ H := h
theorem c_seq (h : s1 { D with nx := s2 D } σ H) : tSeq s1 s2 D σ H := h
theorem c_asg (h : te σ H fun x H1 => g x σ H1 D.nx) : tAsg te g D σ H := h
theorem c_ret (h : te σ H D.rt) : tRet te D σ H := h
theorem c_retN (h : D.rt .non H) : tRetN D σ H := h
theorem c_ifS (h : t σ H fun b H1 => if b = true then s1 D σ H1 else s2 D σ H1) : tIfS t s1 s2 D σ H := h
theorem c_drop (h : te σ H fun _ H1 => D.nx σ H1) : tDrop te D σ H := h
theorem c_break (h : D.bk σ H) : tBreak D σ H := h
theorem c_cont (h : D.ct σ H) : tCont D σ H := h
theorem c_nx {nx : St → Hp → Prop} {rt : VK} {bk ct : St → Hp → Prop} (h : nx σ H) : Ends.nx ⟨nx, rt, bk, ct⟩ σ H := h
theorem c_rt {nx : St → Hp → Prop} {rt : VK} {bk ct : St → Hp → Prop} (h : rt v H) : Ends.rt ⟨nx, rt, bk, ct⟩ v H := h
theorem c_bk {nx : St → Hp → Prop} {rt : VK} {bk ct : St → Hp → Prop} (h : bk σ H) : Ends.bk ⟨nx, rt, bk, ct⟩ σ H := h
theorem c_ct {nx : St → Hp → Prop} {rt : VK} {bk ct : St → Hp → Prop} (h : ct σ H) : Ends.ct ⟨nx, rt, bk, ct⟩ σ H := h
theorem c_gName {i : Nat} {q : St → Hp → Prop} (h : q (σ.set i (some v)) H) : gName i v σ H q := h
theorem c_gTup {n : Nat} {a : Addr} {xs : List V} {q : St → Hp → Prop} (hs : SqT K H a xs) (hl : xs.length = n) (h : gs xs σ H q) : gTup K n gs (.ref a) σ H q := ⟨a, xs, rfl, hs, hl, h⟩
theorem c_gCons {vs : List V} {q : St → Hp → Prop} (h : g v σ H fun σ' H' => gs vs σ' H' q) : gCons g gs (v :: vs) σ H q := ⟨v, vs, rfl, h⟩
theorem c_gNil {q : St → Hp → Prop} (h : q σ H) : gNil [] σ H q := ⟨rfl, h⟩
theorem c_gSub {to ti : TE} {f : TSet} {q : St → Hp → Prop} (h : to σ H fun o H1 => ti σ H1 fun i H2 => f o i v H2 fun H3 => q σ H3) : gSub to ti f v σ H q := h
theorem c_cut {M : St → Hp → Prop} (h : s1 { D with nx := M } σ H) (k : ∀ σ' H', M σ' H' → s2 D σ' H') : Evl.tCut s1 s2 D σ H := ⟨M, h, k⟩
/-! operations on values -/
theorem c_I0 {f : Int → Int → V} {i j : Int} (q : Q (f i j) H) : rI0 f (.int i) (.int j) H Q := ⟨i, j, rfl, rfl, q⟩
theorem c_I {C : Int → Int → Prop} {f : Int → Int → V} {i j : Int} (hc : C i j) (q : Q (f i j) H) : rI C f (.int i) (.int j) H Q := ⟨i, j, rfl, rfl, hc, q⟩
theorem c_U {f : Int → V} {i : Int} (q : Q (f i) H) : rU f (.int i) H Q := ⟨i, rfl, q⟩
theorem c_eq {x y : V} (h : scal x y = true) (q : Q (.bl (decide (x = y))) H) : rEq x y H Q := ⟨h, q⟩
theorem c_ne {x y : V} (h : scal x y = true) (q : Q (.bl (!decide (x = y))) H) : rNe x y H Q := ⟨h, q⟩
theorem c_ixL {p : Addr} {xs : List V} {i : Int} (h : SqL K H p xs) (ha : atI xs i = some v) (q : Q v H) : rIxL K (.ref p) (.int i) H Q := ⟨p, xs, i, v, rfl, rfl, h, ha, q⟩
theorem c_ixT {p : Addr} {xs : List V} {i : Int} (h : SqT K H p xs) (ha : atI xs i = some v) (q : Q v H) : rIxT K (.ref p) (.int i) H Q := ⟨p, xs, i, v, rfl, rfl, h, ha, q⟩
theorem c_setL {p : Addr} {xs : List V} {k : Int} {j : Nat} {q : Hp → Prop} (h : H p = some (.lst xs)) (hj : ixN xs.length k = some j) (h2 : q (upd H p (.lst (xs.set j v)))) : rSetL (.ref p) (.int k) v H q := ⟨p, xs, k, j, rfl, rfl, h, hj, h2⟩
theorem c_in {x : V} {p : Addr} {xs : List V} (h : SqL K H p xs ∨ SqT K H p xs) (hx : flatV x = true) (ha : xs.all flatV = true) (q : Q (.bl (inV x xs)) H) : rIn K false x (.ref p) H Q := ⟨p, xs, rfl, h, hx, ha, q⟩
theorem c_notin {x : V} {p : Addr} {xs : List V} (h : SqL K H p xs ∨ SqT K H p xs) (hx : flatV x = true) (ha : xs.all flatV = true) (q : Q (.bl (!inV x xs)) H) : rIn K true x (.ref p) H Q := ⟨p, xs, rfl, h, hx, ha, q⟩
theorem c_cat {l b : Addr} {xs zs : List V} (h : H l = some (.lst xs)) (h' : H b = some (.lst zs)) (k : RetL (xs ++ zs) H Q) (hz : xs.length + zs.length ≤ 100000 := by exact Nat.le_of_ble_eq_true rfl) : rCat (.ref l) (.ref b) H Q :=
  ⟨l, b, xs, zs, rfl, rfl, h, h', Evl.sz_of hz, fun p hp => k p _ hp (Evl.Ex.new hp) upd_same⟩
end
end L2

/-! ### == of tuples and lists of flat things -/
namespace L2
open PySem PySem.Spec PyProof.Rows
def dOf : V → PyData
  | .non => .none
  | .bl b => .bool b
  | .int i => .int i
  | .str x => .str x
  | _ => .none
/-- flat, its signs within the line -/
def okV : V → Bool
  | .non => true
  | .bl _ => true
  | .int _ => true
  | .str x => PyData.strOk x
  | _ => false
theorem okV_flat {v : V} (h : okV v = true) : flatV v = true := by
  cases v <;> first | rfl | exact absurd h Bool.false_ne_true
theorem okL_flat {xs : List V} (h : xs.all okV = true) : xs.all flatV = true := by
  rw [List.all_eq_true] at h ⊢
  exact fun x hx => okV_flat (h x hx)
def eqL : List V → List V → Bool
  | [], [] => true
  | x :: xs, y :: ys => eqV x y && eqL xs ys
  | _, _ => false
theorem dp_flat {K : PySem.W.Frag} {H : Hp} {v : V} (h : flatV v = true) : Dp K H v (dOf v) := by
  cases v with
  | non => exact .non
  | bl b => exact .bl b
  | int i => exact .int i
  | str x => exact .str x
  | _ => exact absurd h Bool.false_ne_true
theorem dpAll_flat {K : PySem.W.Frag} {H : Hp} : ∀ {xs : List V}, xs.all flatV = true → DpAll K H xs (xs.map dOf)
  | [], _ => .nil
  | x :: xs, h => by
    rw [List.all_cons, Bool.and_eq_true] at h
    exact .cons (dp_flat h.1) (dpAll_flat h.2)
theorem eqv_flat {a b : V} (ha : flatV a = true) (hb : flatV b = true) : PyData.eqv (dOf a) (dOf b) = eqV a b := by
  cases a <;> first | exact absurd ha Bool.false_ne_true | (cases b <;> first | exact absurd hb Bool.false_ne_true | simp [dOf, PyData.eqv, eqV])
theorem eqvAll_flat : ∀ {xs ys : List V}, xs.all flatV = true → ys.all flatV = true → PyData.eqvAll (xs.map dOf) (ys.map dOf) = eqL xs ys
  | [], [], _, _ => by simp [PyData.eqvAll, eqL]
  | [], _ :: _, _, _ => by simp [PyData.eqvAll, eqL]
  | _ :: _, [], _, _ => by simp [PyData.eqvAll, eqL]
  | x :: xs, y :: ys, h, h' => by
    rw [List.all_cons, Bool.and_eq_true] at h h'
    rw [List.map_cons, List.map_cons, PyData.eqvAll, eqv_flat h.1 h'.1, eqvAll_flat h.2 h'.2] <;> rfl
theorem flat_lay {v : V} (ho : okV v = true) : (dOf v).canLay0 = true ∧ (dOf v).depth ≤ 1 := by
  cases v <;> first | exact absurd ho Bool.false_ne_true | (simp [okV] at ho; simp [dOf, PyData.canLay0, PyData.depth, ho]) | simp [dOf, PyData.canLay0, PyData.depth]
theorem flat_layAll : ∀ {xs : List V}, xs.all okV = true → PyData.canLayAll0 (xs.map dOf) = true ∧ PyData.depthAll (xs.map dOf) ≤ 1
  | [], _ => by simp [PyData.canLayAll0, PyData.depthAll]
  | x :: xs, ho => by
    rw [List.all_cons, Bool.and_eq_true] at ho
    have h := flat_lay (v := x) ho.1
    have h2 := flat_layAll (xs := xs) ho.2
    rw [List.map_cons, PyData.canLayAll0, PyData.depthAll, h.1, h2.1]
    refine ⟨rfl, ?_⟩
    have := h.2
    have := h2.2
    omega
theorem shaped_tup {xs : List V} (ho : xs.all okV = true) : SeqAt.shaped (.tuple (xs.map dOf)) = true := by
  have h := flat_layAll (xs := xs) ho
  have h2 := h.2
  unfold SeqAt.shaped
  rw [PyData.canLay0, PyData.depth, h.1, Bool.true_and, decide_eq_true_eq]
  omega
theorem shaped_lst {xs : List V} (ho : xs.all okV = true) : SeqAt.shaped (.list (xs.map dOf)) = true := by
  have h := flat_layAll (xs := xs) ho
  have h2 := h.2
  unfold SeqAt.shaped
  rw [PyData.canLay0, PyData.depth, h.1, Bool.true_and, decide_eq_true_eq]
  omega
section
variable {K : PySem.W.Frag} {H : Hp} {Q : VK} {p q : Addr} {xs ys : List V}
theorem c_eqT (h : SqT K H p xs) (h' : SqT K H q ys) (f : xs.all okV = true) (f' : ys.all okV = true) (k : Q (.bl (eqL xs ys)) H) : rEqD K (.ref p) (.ref q) H Q :=
  ⟨_, _, .tup h (dpAll_flat (okL_flat f)), .tup h' (dpAll_flat (okL_flat f')), shaped_tup f, shaped_tup f', by rw [PyData.eqv, eqvAll_flat (okL_flat f) (okL_flat f')]; exact k⟩
theorem c_neT (h : SqT K H p xs) (h' : SqT K H q ys) (f : xs.all okV = true) (f' : ys.all okV = true) (k : Q (.bl (!eqL xs ys)) H) : rNeD K (.ref p) (.ref q) H Q :=
  ⟨_, _, .tup h (dpAll_flat (okL_flat f)), .tup h' (dpAll_flat (okL_flat f')), shaped_tup f, shaped_tup f', by rw [PyData.eqv, eqvAll_flat (okL_flat f) (okL_flat f')]; exact k⟩
theorem c_eqLs (h : SqL K H p xs) (h' : SqL K H q ys) (f : xs.all okV = true) (f' : ys.all okV = true) (k : Q (.bl (eqL xs ys)) H) : rEqD K (.ref p) (.ref q) H Q :=
  ⟨_, _, .lst h (dpAll_flat (okL_flat f)), .lst h' (dpAll_flat (okL_flat f')), shaped_lst f, shaped_lst f', by rw [PyData.eqv, eqvAll_flat (okL_flat f) (okL_flat f')]; exact k⟩
theorem c_neLs (h : SqL K H p xs) (h' : SqL K H q ys) (f : xs.all okV = true) (f' : ys.all okV = true) (k : Q (.bl (!eqL xs ys)) H) : rNeD K (.ref p) (.ref q) H Q :=
  ⟨_, _, .lst h (dpAll_flat (okL_flat f)), .lst h' (dpAll_flat (okL_flat f')), shaped_lst f, shaped_lst f', by rw [PyData.eqv, eqvAll_flat (okL_flat f) (okL_flat f')]; exact k⟩
theorem eqV_refl {v : V} (h : flatV v = true) : eqV v v = true := by
  cases v <;> first | exact absurd h Bool.false_ne_true | simp [eqV]
theorem eqL_refl : ∀ {xs : List V}, xs.all flatV = true → eqL xs xs = true
  | [], _ => rfl
  | x :: xs, h => by
    rw [List.all_cons, Bool.and_eq_true] at h
    rw [eqL, eqV_refl h.1, eqL_refl h.2] <;> rfl
end
/-! ### the law's box -/
def BoxAt (H : Hp) (b : Addr) : Prop := ∃ x y z : Int, 0 ≤ x ∧ H b = some (.lst [.int x, .int y, .int z])
/-- all but b is kept -/
def ExB (b : Addr) (H H' : Hp) : Prop := ∀ a o, a ≠ b → H a = some o → H' a = some o
theorem ExB.refl (b : Addr) (H : Hp) : ExB b H H := fun _ _ _ h => h
theorem ExB.trans {b : Addr} {H H1 H2 : Hp} (e : ExB b H H1) (e2 : ExB b H1 H2) : ExB b H H2 := fun a o n h => e2 a o n (e a o n h)
theorem ExB.ex {b : Addr} {H H1 H2 : Hp} (e : ExB b H H1) (e2 : Evl.Ex H1 H2) : ExB b H H2 := fun a o n h => e2 a o (e a o n h)
theorem ExB.of {b : Addr} {H H1 : Hp} (e : Evl.Ex H H1) : ExB b H H1 := fun a o _ h => e a o h
theorem ExB.upd {b : Addr} {H : Hp} {o : HO} : ExB b H (upd H b o) := fun a u n h => by rw [upd_ne n]; exact h
theorem BoxAt.ex {H H' : Hp} {b : Addr} (h : BoxAt H b) (e : Evl.Ex H H') : BoxAt H' b := let ⟨x, y, z, p, q⟩ := h; ⟨x, y, z, p, e _ _ q⟩
/-- what did not stand before b was made is kept through ExB b -/
theorem ExB.tot {b : Addr} {H0 H H' : Hp} (e : Evl.Ex H0 H) (n : H0 b = none) (e2 : ExB b H H') : Evl.Ex H0 H' := fun a o h => e2 a o (ne_of_none h n) (e a o h)
theorem ExB.lst {K : PySem.W.Frag} {b a : Addr} {H H' : Hp} {xs : List V} (e : ExB b H H') (n : a ≠ b) (h : SqL K H a xs) : SqL K H' a xs := by
  rcases h with (h | ⟨o, h⟩) | h
  · exact .inl (.inl (e _ _ n h))
  · exact .inl (.inr ⟨o, e _ _ n h⟩)
  · exact .inr h
end L2
namespace L2
open PySem PySem.Spec PyProof.Rows
theorem shaped_flat {v : V} (h : okV v = true) : SeqAt.shaped (dOf v) = true := by
  have q := flat_lay h
  unfold SeqAt.shaped
  rw [q.1, Bool.true_and, decide_eq_true_eq]
  have := q.2
  omega
theorem c_eqF {K : PySem.W.Frag} {H : Hp} {Q : VK} {x y : V} (f : okV x = true) (f' : okV y = true) (k : Q (.bl (eqV x y)) H) : rEqD K x y H Q :=
  ⟨_, _, dp_flat (okV_flat f), dp_flat (okV_flat f'), shaped_flat f, shaped_flat f', by rw [eqv_flat (okV_flat f) (okV_flat f')]; exact k⟩
theorem c_neF {K : PySem.W.Frag} {H : Hp} {Q : VK} {x y : V} (f : okV x = true) (f' : okV y = true) (k : Q (.bl (!eqV x y)) H) : rNeD K x y H Q :=
  ⟨_, _, dp_flat (okV_flat f), dp_flat (okV_flat f'), shaped_flat f, shaped_flat f', by rw [eqv_flat (okV_flat f) (okV_flat f')]; exact k⟩
end L2
namespace L2
open PySem PySem.Spec PyProof.Rows
theorem dec_s {x y : Str} : decide (V.str x = V.str y) = decide (x = y) := by
  by_cases h : x = y
  · subst h; simp
  · rw [decide_eq_false h, decide_eq_false fun e => h (V.str.inj e)]
theorem str_ne {x y : Str} (h : x ≠ y) : decide (V.str x = V.str y) = false := by rw [dec_s]; exact decide_eq_false h
theorem str_eq {x y : Str} (h : x = y) : decide (V.str x = V.str y) = true := by rw [dec_s]; exact decide_eq_true h
end L2

/-! ### list.count of flat things -/
namespace L2
open PySem PySem.Spec PyProof.Rows
theorem countP_eqU {x : V} : ∀ {xs : List V} {us : List Value}, Vals xs us → xs.all flatV = true → us.countP (eqU x) = xs.countP fun y => eqV y x
  | _, _, .nil, _ => rfl
  | y :: xs, u :: us, .cons r t, h => by
    rw [List.all_cons, Bool.and_eq_true] at h
    rw [List.countP_cons, List.countP_cons, countP_eqU t h.2, eqU_of r h.1]
def rCntF (K : PySem.W.Frag) : V → List V → Hp → VK → Prop := fun x xs H Q => ∃ (p : Addr) (ys : List V) (y : V), x = .ref p ∧ xs = [y] ∧ SqL K H p ys ∧ flatV y = true ∧ ys.all flatV = true ∧ Q (.int ((ys.countP fun z => eqV z y : Nat) : Int)) H
theorem mt_countF {X : Cx} : MtR X "list.count" (rCntF X.K) := by
  intro pins s σ H x xs v us Q I rx rxs h
  obtain ⟨p, ys, y, rfl, rfl, hs, fy, fl, q⟩ := h
  cases rx
  obtain ⟨u, rfl, ru⟩ := rxs.one
  obtain ⟨its, rv, ⟨⟨cls, dd, data, sl⟩, n, ho, hc, hdn, hd⟩, hlen⟩ := I.list hs
  simp only at hc hd
  subst hc hd
  have ec : its.toArray.toList.countP (eqU y) = ys.countP fun z => eqV z y := countP_eqU rv fl
  refine call_meets PySem.F.slot_list_count ⟨_, ho, rfl⟩ PySem.F.entry_list_count (PySem.F.args_list_count_2 _ _)
    (SeqAt.list_countAt p its.toArray n dd sl u (eqU y)) ⟨ho, fun z hz => mem_eqAt ru fy rv fl z (by simpa using hz), ?_⟩
  refine ⟨.int ((ys.countP fun z => eqV z y : Nat) : Int), H, I.tok _, ⟨s.toks, ?_⟩, q⟩
  rw [ec]
end L2

/-! ### a list comprehension whose element and test are told by the turn -/
namespace L2
open PySem PySem.Spec PyProof.Rows
theorem range_fm {f : Nat → Option V} {n : Nat} : (List.range (n + 1)).filterMap f = (List.range n).filterMap f ++ (f n).toList := by
  rw [List.range_succ, List.filterMap_append]
  cases h : f n <;> simp [List.filterMap_cons, h]
theorem fm_len {f : Nat → Option V} {n : Nat} : ((List.range n).filterMap f).length ≤ n := by
  have h := List.length_filterMap_le f (List.range n)
  rw [List.length_range] at h
  exact h
section
variable {K : PySem.W.Frag} {σ : St} {H : Hp} {Q : VK} {g : TG} {tt : TT} {te : TE} {vs : List Nat}
/-- one turn: the target, the test, the element come to f i, all that stood kept -/
def LcTurn (g : TG) (tt : TT) (te : TE) (vs : List Nat) (σ : St) (H : Hp) (x : V) (y : Option V) : Prop :=
  ∀ H2, Evl.Ex H H2 → ∀ R : Option V → Hp → Prop, (∀ H3, Evl.Ex H2 H3 → R y H3) →
    g x (wipe σ vs) H2 fun σ2 H3 => wipe σ2 vs = wipe σ vs ∧ tt σ2 H3 fun b H4 => if b = true then te σ2 H4 fun y H5 => R (some y) H5 else R none H4
theorem lc_of {n : Nat} {D : Addr} {H1 : Hp} {f : Nat → Option V} {i : Nat} {H' : Hp} (hn : n ≤ 50000) (hi : i < n) (p1 : H1 D = none) (p2 : Evl.Ex H1 H') (p3 : H' D = some (.lst ((List.range i).filterMap f))) {x : V} (ht : LcTurn g tt te vs σ H1 x (f i)) :
    g x (wipe σ vs) H' fun σ2 H2 => wipe σ2 vs = wipe σ vs ∧ tt σ2 H2 fun b H3 =>
      if b = true then te σ2 H3 fun y H4 => ∃ acc, H4 D = some (.lst acc) ∧ acc.length < sizeLine ∧ (H1 D = none ∧ Evl.Ex H1 (upd H4 D (.lst (acc ++ [y]))) ∧ upd H4 D (.lst (acc ++ [y])) D = some (.lst ((List.range (i + 1)).filterMap f))) else (H1 D = none ∧ Evl.Ex H1 H3 ∧ H3 D = some (.lst ((List.range (i + 1)).filterMap f))) := by
  refine ht H' p2 (fun o H4 => match o with
    | some y => ∃ acc, H4 D = some (.lst acc) ∧ acc.length < sizeLine ∧ (H1 D = none ∧ Evl.Ex H1 (upd H4 D (.lst (acc ++ [y]))) ∧ upd H4 D (.lst (acc ++ [y])) D = some (.lst ((List.range (i + 1)).filterMap f)))
    | none => (H1 D = none ∧ Evl.Ex H1 H4 ∧ H4 D = some (.lst ((List.range (i + 1)).filterMap f)))) (fun H3 e3 => ?_)
  cases hf : f i with
  | some y =>
    refine ⟨_, e3 _ _ p3, ?_, p1, Evl.Ex.mut (p2.trans e3) p1, ?_⟩
    · have := fm_len (f := f) (n := i)
      exact Evl.sz_lt (by omega)
    · rw [upd_same, range_fm, hf] <;> rfl
  | none =>
    refine ⟨p1, p2.trans e3, ?_⟩
    rw [range_fm, hf]
    show H3 D = some (.lst (_ ++ []))
    rw [List.append_nil]
    exact e3 _ _ p3
end
end L2

/-! ### loops -/
namespace L2
open PySem PySem.Spec PyProof.Rows
/-- a loop over what is walked already -/
def ForI (J : It) (g : TG) (tb : TS) (D : Ends) (σ : St) (H : Hp) : Prop := tFor (fun _ H1 R => R J H1) g tb D σ H
section
variable {K : PySem.W.Frag} {σ : St} {H : Hp} {D : Ends} {g : TG} {tb : TS} {ta : TA} {tl : TE}
theorem c_forR1 (h : ta σ H fun vs H1 => ∃ j : Int, vs = [.int j] ∧ -(2 ^ 62) ≤ j ∧ j < 2 ^ 62 ∧ ForI (Itr 0 j.toNat) g tb D σ H1) : tFor (iRng1 ta) g tb D σ H := h
theorem c_forR2 (h : ta σ H fun vs H1 => ∃ i j : Int, vs = [.int i, .int j] ∧ (-(2 ^ 62) ≤ i ∧ i < 2 ^ 62 ∧ -(2 ^ 62) ≤ j ∧ j < 2 ^ 62) ∧ ForI (Itr i (j - i).toNat) g tb D σ H1) : tFor (iRng2 ta) g tb D σ H := h
theorem c_forL (h : tl σ H fun x H1 => ∃ a, x = .ref a ∧ (∃ xs, SqL K H1 a xs) ∧ ForI (Itl K a) g tb D σ H1) : tFor (iList K tl) g tb D σ H := h
theorem c_forT (h : tl σ H fun x H1 => ∃ a, x = .ref a ∧ (∃ xs, SqT K H1 a xs) ∧ ForI (Itt K a) g tb D σ H1) : tFor (iTup K tl) g tb D σ H := h
/-- range(n), n whole and not below 0 or below it -/
theorem forR {n : Nat} {j : Nat} (Pv : Nat → St → Hp → Prop) (h0 : Pv 0 σ H) (hs : ∀ (i : Nat) σ' H', i < n → Pv i σ' H' → tb { D with nx := Pv (i + 1), ct := Pv (i + 1), bk := D.nx } (σ'.set j (some (.int (i : Int)))) H') (hd : ∀ σ' H', Pv n σ' H' → D.nx σ' H') : ForI (Itr 0 n) (gName j) tb D σ H :=
  for_range (lo := 0) (n := n) Pv h0 (fun i σ' H' hi p => by
    have e0 : (0 : Int) + (i : Int) = (i : Int) := Int.zero_add _
    show tb { D with nx := Pv (i + 1), ct := Pv (i + 1), bk := D.nx } (σ'.set j (some (.int ((0 : Int) + (i : Int))))) H'
    rw [e0]
    exact hs i σ' H' hi p) hd
theorem forL {a : Addr} {xs : List V} {j : Nat} (Pv : Nat → St → Hp → Prop) (h0 : Pv 0 σ H) (hl : ∀ i σ' H', i ≤ xs.length → Pv i σ' H' → SqL K H' a xs)
    (hs : ∀ i x σ' H', xs[i]? = some x → Pv i σ' H' → tb { D with nx := Pv (i + 1), ct := Pv (i + 1), bk := D.nx } (σ'.set j (some x)) H') (hd : ∀ σ' H', Pv xs.length σ' H' → D.nx σ' H') : ForI (Itl K a) (gName j) tb D σ H := for_list Pv h0 hl hs hd
theorem forT {a : Addr} {xs : List V} {j : Nat} (Pv : Nat → St → Hp → Prop) (h0 : Pv 0 σ H) (hl : ∀ i σ' H', i ≤ xs.length → Pv i σ' H' → SqT K H' a xs)
    (hs : ∀ i x σ' H', xs[i]? = some x → Pv i σ' H' → tb { D with nx := Pv (i + 1), ct := Pv (i + 1), bk := D.nx } (σ'.set j (some x)) H') (hd : ∀ σ' H', Pv xs.length σ' H' → D.nx σ' H') : ForI (Itt K a) (gName j) tb D σ H := for_tup Pv h0 hl hs hd
end
/-- a comprehension over what is walked already -/
def LcI (J : It) (g : TG) (tt : TT) (te : TE) (vs : List Nat) (σ : St) (H : Hp) (Q : VK) : Prop := tLc (fun _ H1 R => R J H1) g tt te vs σ H Q
section
variable {K : PySem.W.Frag} {σ : St} {H : Hp} {Q : VK} {g : TG} {tt : TT} {te : TE} {vs : List Nat} {ta : TA} {tl : TE}
theorem c_lcR1 (h : ta σ H fun ws H1 => ∃ j : Int, ws = [.int j] ∧ -(2 ^ 62) ≤ j ∧ j < 2 ^ 62 ∧ LcI (Itr 0 j.toNat) g tt te vs σ H1 Q) : tLc (iRng1 ta) g tt te vs σ H Q := h
theorem c_lcLi (h : tl σ H fun x H1 => ∃ a, x = .ref a ∧ (∃ xs, SqL K H1 a xs) ∧ LcI (Itl K a) g tt te vs σ H1 Q) : tLc (iList K tl) g tt te vs σ H Q := h
theorem c_lcTi (h : tl σ H fun x H1 => ∃ a, x = .ref a ∧ (∃ xs, SqT K H1 a xs) ∧ LcI (Itt K a) g tt te vs σ H1 Q) : tLc (iTup K tl) g tt te vs σ H Q := h
theorem lcL {a : Addr} {xs : List V} (f : Nat → Option V) (hs : SqL K H a xs) (hl : xs.length ≤ 50000) (ht : ∀ (i : Nat) (x : V), xs[i]? = some x → LcTurn g tt te vs σ H x (f i)) (k : RetL ((List.range xs.length).filterMap f) H Q) : LcI (Itl K a) g tt te vs σ H Q := by
  refine fun D hD => ?_
  refine lc_list (xs := xs) (fun i H' => H D = none ∧ Evl.Ex H H' ∧ H' D = some (.lst ((List.range i).filterMap f))) ⟨hD, Evl.Ex.new hD, upd_same⟩ (fun i H' _ p => Evl.ex_l p.2.1 hs) (fun i x H' hi p => ?_) (fun H' p => k D H' p.1 p.2.1 p.2.2)
  exact lc_of hl (List.getElem?_eq_some_iff.mp hi).1 p.1 p.2.1 p.2.2 (ht i x hi)
theorem lcT {a : Addr} {xs : List V} (f : Nat → Option V) (hs : SqT K H a xs) (hl : xs.length ≤ 50000) (ht : ∀ (i : Nat) (x : V), xs[i]? = some x → LcTurn g tt te vs σ H x (f i)) (k : RetL ((List.range xs.length).filterMap f) H Q) : LcI (Itt K a) g tt te vs σ H Q := by
  refine fun D hD => ?_
  refine lc_tup (xs := xs) (fun i H' => H D = none ∧ Evl.Ex H H' ∧ H' D = some (.lst ((List.range i).filterMap f))) ⟨hD, Evl.Ex.new hD, upd_same⟩ (fun i H' _ p => Evl.ex_t p.2.1 hs) (fun i x H' hi p => ?_) (fun H' p => k D H' p.1 p.2.1 p.2.2)
  exact lc_of hl (List.getElem?_eq_some_iff.mp hi).1 p.1 p.2.1 p.2.2 (ht i x hi)
theorem lcR {n : Nat} (f : Nat → Option V) (hl : n ≤ 50000) (ht : ∀ (i : Nat), i < n → LcTurn g tt te vs σ H (.int (i : Int)) (f i)) (k : RetL ((List.range n).filterMap f) H Q) : LcI (Itr 0 n) g tt te vs σ H Q := by
  refine fun D hD => ?_
  refine lc_range (lo := 0) (n := n) (fun i H' => H D = none ∧ Evl.Ex H H' ∧ H' D = some (.lst ((List.range i).filterMap f))) ⟨hD, Evl.Ex.new hD, upd_same⟩ (fun i H' hi p => ?_) (fun H' p => k D H' p.1 p.2.1 p.2.2)
  have e0 : (0 : Int) + (i : Int) = (i : Int) := Int.zero_add _
  rw [e0]
  exact lc_of hl hi p.1 p.2.1 p.2.2 (ht i hi)
end
end L2

/-! ### texts -/
namespace L2
open PySem PySem.Spec PyProof.Rows
open TL (tl)
/-- x is b, x is not b, b True or False, x a flat thing -/
def rIsV : R2 := fun x y H Q => ∃ b : Bool, y = .bl b ∧ Q (.bl (decide (x = .bl b))) H
def rNotV : R2 := fun x y H Q => ∃ b : Bool, y = .bl b ∧ Q (.bl (!decide (x = .bl b))) H
section
variable {X : Cx}
theorem isV_plain {x : V} {v : Value} {b : Bool} (rx : RelV x v) : plainIs v (.bool b) = true ∧ (v == Value.bool b) = decide (x = .bl b) := by
  cases x with
  | non => cases (show v = Value.none from rx); exact ⟨rfl, rfl⟩
  | bl c =>
    cases (show v = Value.bool c from rx)
    refine ⟨rfl, ?_⟩
    cases c <;> cases b <;> rfl
  | int i => obtain ⟨t, e⟩ := (show ∃ t, v = Value.int i t from rx); cases e; exact ⟨rfl, rfl⟩
  | str z => obtain ⟨t, e⟩ := (show ∃ t, v = Value.str z t from rx); cases e; exact ⟨rfl, rfl⟩
  | byt z => obtain ⟨t, e⟩ := (show ∃ t, v = Value.bytes z t from rx); cases e; exact ⟨rfl, rfl⟩
  | flt z => obtain ⟨t, e⟩ := (show ∃ t, v = Value.float z t from rx); cases e; exact ⟨rfl, rfl⟩
  | ref a => cases (show v = Value.ref a from rx); exact ⟨rfl, rfl⟩
  | ty n => cases (show v = Value.type n from rx); exact ⟨rfl, rfl⟩
theorem op_isB : OpR X (compareOp .Is) rIsV := by
  intro pins s σ H x y v u Q I rx ry h
  obtain ⟨b, rfl, q⟩ := h
  cases (show u = Value.bool b from ry)
  have z := isV_plain (b := b) rx
  refine wpAny_is_plain z.1 ?_
  rw [z.2]
  exact ⟨.bl _, H, I, rfl, q⟩
theorem op_notB : OpR X (compareOp .IsNot) rNotV := by
  intro pins s σ H x y v u Q I rx ry h
  obtain ⟨b, rfl, q⟩ := h
  cases (show u = Value.bool b from ry)
  have z := isV_plain (b := b) rx
  refine wpAny_isNot_plain z.1 ?_
  rw [z.2]
  exact ⟨.bl _, H, I, rfl, q⟩
end
/-- s * n, n two at least -/
def repS (x : Str) (n : Nat) : Str := ⟨(List.replicate n x.cps).foldl (· ++ ·) #[]⟩
theorem rep_size (a : Array Nat) : ∀ (n : Nat) (acc : Array Nat), ((List.replicate n a).foldl (· ++ ·) acc).size = acc.size + n * a.size
  | 0, acc => by simp
  | n + 1, acc => by
    rw [List.replicate_succ, List.foldl_cons, rep_size a n, Array.size_append, Nat.succ_mul]
    omega
theorem repS_len (x : Str) (n : Nat) : (repS x n).length = n * x.length := by
  show ((List.replicate n x.cps).foldl (· ++ ·) #[]).size = _
  rw [rep_size]
  simp [Str.length]
section
variable {X : Cx}
theorem op_rep_str : OpR X (binaryOp .Mult) (fun x y H Q => ∃ (z : Str) (n : Int), x = .str z ∧ y = .int n ∧ 2 ≤ n ∧ n ≤ 100000 ∧ 0 < z.length ∧ z.length ≤ 100 ∧ Q (.str (repS z n.toNat)) H) := by
  intro pins s σ H x y v u Q I rx ry h
  obtain ⟨z, n, rfl, rfl, h2, h1, z0, z1, q⟩ := h
  obtain ⟨t, rfl⟩ := rx
  obtain ⟨t', rfl⟩ := ry
  have hs : sizeLine = 16777216 := sizeLine_eq
  have hp : z.length * n.toNat ≤ 100 * 100000 := Nat.mul_le_mul z1 (by omega)
  refine PySem.P.mul_str ?_ (fun _ _ => ?_) (fun _ _ => ?_) ?_
  · rw [decide_eq_false (by omega), decide_eq_false (by omega)]; rfl
  · have : (100 : Int) ≤ (2 ^ 63 - 1) / n := by
      rw [Int.le_ediv_iff_mul_le (by omega)]
      omega
    omega
  · unfold Builtin.Str.tooLong
    rw [decide_eq_false (by omega)]
  · rw [if_neg (by omega), if_neg (by
      rw [Bool.or_eq_true, beq_iff_eq, beq_iff_eq]
      omega)]
    refine ⟨?_, .str (repS z n.toNat), H, I.tok _, ⟨_, rfl⟩, q⟩
    have e := repS_len z n.toNat
    rw [Nat.mul_comm] at e
    show (repS z n.toNat).length ≤ sizeLine
    omega
end
/-! loops over a text -/
section
variable {K : PySem.W.Frag} {σ : St} {H : Hp} {D : Ends} {Q : VK} {g : TG} {tb : TS} {tl' : TE} {tt : TT} {te : TE} {vs : List Nat}
theorem c_forS (h : tl' σ H fun v H1 => ∃ x, v = .str x ∧ ForI (Its x) g tb D σ H1) : tFor (iStr tl') g tb D σ H := h
theorem c_lcSi (h : tl' σ H fun v H1 => ∃ x, v = .str x ∧ LcI (Its x) g tt te vs σ H1 Q) : tLc (iStr tl') g tt te vs σ H Q := h
theorem tl_get {x : Str} {i c : Nat} : x.cps[i]? = some c ↔ (tl x)[i]? = some c := by
  show _ ↔ x.cps.toList[i]? = some c
  rw [Array.getElem?_toList]
theorem tl_len (x : Str) : (tl x).length = x.length := by simp [tl, Str.length]
theorem forS {x : Str} {j : Nat} (Pv : Nat → St → Hp → Prop) (h0 : Pv 0 σ H)
    (hs : ∀ i c σ' H', (tl x)[i]? = some c → Pv i σ' H' → tb { D with nx := Pv (i + 1), ct := Pv (i + 1), bk := D.nx } (σ'.set j (some (.str ⟨#[c]⟩))) H') (hd : ∀ σ' H', Pv (tl x).length σ' H' → D.nx σ' H') : ForI (Its x) (gName j) tb D σ H :=
  for_it walk_str Pv h0 (fun _ _ _ _ _ => trivial) (fun i v σ' H' H'' hi p y => by
    obtain ⟨rfl, c, hc, rfl⟩ := y
    exact hs i c σ' H'' (tl_get.mp hc) p) (by
    have e : x.cps.size = (tl x).length := by simp [tl]
    rw [e]
    exact hd)
theorem fm_range {α : Type} {F : α → Option V} : ∀ {l : List α}, (List.range l.length).filterMap (fun i => (l[i]?).bind F) = l.filterMap F
  | [] => rfl
  | a :: l => by
    rw [List.length_cons, List.range_succ_eq_map, List.filterMap_cons, List.filterMap_map, List.filterMap_cons]
    have ih := fm_range (F := F) (l := l)
    rw [List.getElem?_cons_zero, Option.bind_some]
    have e : ((fun i => ((a :: l)[i]?).bind F) ∘ Nat.succ) = fun i => (l[i]?).bind F := by
      funext i
      simp
    rw [e, ih] <;> rfl
theorem lcS {x : Str} (F : Nat → Option V) (hl : x.length ≤ 50000) (ht : ∀ c, c ∈ tl x → LcTurn g tt te vs σ H (.str ⟨#[c]⟩) (F c)) (k : RetL ((tl x).filterMap F) H Q) : LcI (Its x) g tt te vs σ H Q := by
  refine fun D hD => ?_
  have e : x.cps.size = (tl x).length := by simp [tl]
  refine lc_it walk_str (fun i H' => H D = none ∧ Evl.Ex H H' ∧ H' D = some (.lst ((List.range i).filterMap fun i => ((tl x)[i]?).bind F))) ⟨hD, Evl.Ex.new hD, upd_same⟩ (fun _ _ _ _ => trivial) (fun i v H' H'' hi p y => ?_) (fun H' p => k D H' p.1 p.2.1 ?_)
  · obtain ⟨rfl, c, hc, rfl⟩ := y
    have hc2 := tl_get.mp hc
    refine lc_of (n := x.cps.size) (f := fun i => ((tl x)[i]?).bind F) hl hi p.1 p.2.1 p.2.2 ?_
    rw [hc2]
    exact ht c (List.mem_of_getElem? hc2)
  · have q := p.2.2
    rw [e, fm_range] at q
    exact q
/-- the same of a list, by what its things are -/
theorem lcLv {a : Addr} {xs : List V} (F : V → Option V) (hs : SqL K H a xs) (hl : xs.length ≤ 50000) (ht : ∀ x, x ∈ xs → LcTurn g tt te vs σ H x (F x)) (k : RetL (xs.filterMap F) H Q) : LcI (Itl K a) g tt te vs σ H Q := by
  refine lcL (fun i => (xs[i]?).bind F) hs hl (fun i x hi => ?_) ?_
  · rw [hi]
    exact ht x (List.mem_of_getElem? hi)
  · rw [fm_range]
    exact k
end
theorem fm_some {α : Type} {F : α → V} : ∀ (l : List α), l.filterMap (fun c => some (F c)) = l.map F
  | [] => rfl
  | a :: l => by rw [List.filterMap_cons, List.map_cons, fm_some l]
theorem tl_ext {x y : Str} : x = y ↔ tl x = tl y := ⟨fun h => by rw [h], TL.ext_tl⟩
theorem starts_is (x y : Str) : Txt.startswith x y = ((tl x).take (tl y).length == tl y) := by
  unfold Txt.startswith
  rw [StrLaws.subAt_eq]
  show (decide (0 + y.length ≤ x.length) && (((tl x).drop 0).take y.length == tl y)) = _
  rw [List.drop_zero, tl_len]
  cases h : (List.take y.length (tl x) == tl y) with
  | false => rw [Bool.and_false]
  | true =>
    rw [Bool.and_true, decide_eq_true_eq]
    have e := congrArg List.length (beq_iff_eq.mp h)
    rw [List.length_take, tl_len, tl_len] at e
    omega
theorem tl_cut (z : Str) (lo hi : Option Int) : tl (cutS z lo hi) = ((tl z).drop (HT.sIx z.length 0 lo)).take (HT.sIx z.length z.length hi - HT.sIx z.length 0 lo) := rfl
theorem tl_one (c : Nat) : tl ⟨#[c]⟩ = [c] := rfl
end L2
namespace L2
open PySem PySem.Spec PyProof.Rows
open TL (tl)
theorem c_ixS {H : Hp} {Q : VK} {z : Str} {i : Int} {c : Nat} (hz : z.length ≤ 100000) (ha : atI (tl z) i = some c) (q : Q (.str ⟨#[c]⟩) H) : rIxS (.str z) (.int i) H Q := ⟨z, i, c, rfl, rfl, Evl.sz_of hz, ha, q⟩
theorem c_slS {H : Hp} {Q : VK} {z : Str} {lo hi : Option Int} (hz : z.length ≤ 100000) (q : Q (.str (cutS z lo hi)) H) : rSlS (.str z) lo hi H Q := ⟨z, rfl, Evl.sz_of hz, q⟩
theorem sIx_le' (n d : Nat) (hd : d ≤ n) (o : Option Int) : HT.sIx n d o ≤ n := HT.sIx_le n d hd o
theorem add_len (a b : Str) : (a ++ b).length = a.length + b.length := by
  rw [← tl_len, TL.tl_append, List.length_append, tl_len, tl_len]
end L2
namespace L2
open PySem PySem.Spec PyProof.Rows
open TL (tl)
/-- a text whose signs lie within the line -/
def OkT (t : Str) : Prop := ∀ c, c ∈ tl t → c < 1114112
theorem okT_V {t : Str} (h : OkT t) : okV (.str t) = true := by
  show PyData.strOk t = true
  unfold PyData.strOk
  rw [Array.all_eq_true']
  intro c hc
  exact decide_eq_true (h c (Array.mem_toList_iff.mpr hc))
theorem okT_one {c : Nat} (h : c < 1114112) : okV (.str ⟨#[c]⟩) = true := okT_V fun d hd => by
  have : d = c := by simpa [tl] using hd
  omega
theorem OkT.app {a b : Str} (ha : OkT a) (hb : OkT b) : OkT (a ++ b) := fun c hc => by
  rw [TL.tl_append] at hc
  rcases List.mem_append.mp hc with h | h
  · exact ha c h
  · exact hb c h
theorem OkT.cut {a : Str} (ha : OkT a) (lo hi : Option Int) : OkT (cutS a lo hi) := fun c hc => ha c (List.mem_of_mem_drop (List.mem_of_mem_take hc))
theorem OkT.lit {t : Str} (h : (tl t).all (fun c => decide (c < 1114112)) = true) : OkT t := fun c hc => of_decide_eq_true (List.all_eq_true.mp h c hc)
end L2

/-! ### draws within a comprehension; joined texts -/
namespace L2
open PySem PySem.Spec PyProof.Rows
open TL (tl)
section
variable {K : PySem.W.Frag} {σ : St} {H : Hp} {Q : VK} {g : TG} {tt : TT} {te : TE} {vs : List Nat}
theorem BoxAt.some {H : Hp} {b : Addr} (h : BoxAt H b) : ∃ o, H b = Option.some o := let ⟨_, _, _, _, q⟩ := h; ⟨_, q⟩
theorem lcRB {n : Nat} {b : Addr} (good : V → Prop) (hn : n ≤ 1000) (hB : BoxAt H b)
    (ht : ∀ (i : Nat), i < n → ∀ H2, BoxAt H2 b → ExB b H H2 → ∀ (R : V → Hp → Prop) (N : Hp → Prop), (∀ y H3, good y → BoxAt H3 b → ExB b H2 H3 → R y H3) →
      g (.int (i : Int)) (wipe σ vs) H2 fun σ2 H3 => wipe σ2 vs = wipe σ vs ∧ tt σ2 H3 fun c H4 => if c = true then te σ2 H4 fun y H5 => R y H5 else N H4)
    (k : ∀ ys p H2, ys.length = n → (∀ y ∈ ys, good y) → H p = none → ExB b H H2 → BoxAt H2 b → H2 p = some (.lst ys) → Q (.ref p) H2) : LcI (Itr 0 n) g tt te vs σ H Q := by
  refine fun D hD => ?_
  obtain ⟨ob, hob⟩ := hB.some
  have nDb : D ≠ b := (ne_of_none hob hD).symm
  have bx : ∀ {G : Hp} {o : HO}, BoxAt G b → BoxAt (upd G D o) b := fun ⟨x, y, z, p, q⟩ => ⟨x, y, z, p, by rw [upd_ne nDb.symm]; exact q⟩
  have ex : ∀ {G : Hp} {o : HO}, ExB b H G → ExB b H (upd G D o) := fun e a u na ha => by rw [upd_ne (ne_of_none ha hD)]; exact e a u na ha
  refine lc_range (lo := 0) (n := n) (fun i H' => i ≤ n ∧ ExB b H H' ∧ BoxAt H' b ∧ ∃ ys, ys.length = i ∧ (∀ y ∈ ys, good y) ∧ H' D = some (.lst ys)) ⟨Nat.zero_le _, ex (ExB.refl _ _), bx hB, [], rfl, (fun _ h => by cases h), upd_same⟩ (fun i H' hi p => ?_) (fun H' p => ?_)
  · obtain ⟨_, e1, b1, ys, hl, hg, hy⟩ := p
    have e0 : (0 : Int) + (i : Int) = (i : Int) := Int.zero_add _
    rw [e0]
    refine ht i hi H' b1 e1 (fun y H4 => ∃ acc, H4 D = some (.lst acc) ∧ acc.length < sizeLine ∧ (i + 1 ≤ n ∧ ExB b H (upd H4 D (.lst (acc ++ [y]))) ∧ BoxAt (upd H4 D (.lst (acc ++ [y]))) b ∧ ∃ zs, zs.length = i + 1 ∧ (∀ y ∈ zs, good y) ∧ upd H4 D (.lst (acc ++ [y])) D = some (.lst zs))) _ (fun y H3 gy b3 e3 => ?_)
    refine ⟨ys, e3 D _ nDb hy, Evl.sz_lt (by omega), hi, ex (e1.trans e3), bx b3, ys ++ [y], by rw [List.length_append, hl]; rfl, fun z hz => ?_, upd_same⟩
    rcases List.mem_append.mp hz with h | h
    · exact hg z h
    · have : z = y := by simpa using h
      rw [this]
      exact gy
  · obtain ⟨_, e1, b1, ys, hl, hg, hy⟩ := p
    exact k ys D H' hl hg hD e1 b1 hy
end
theorem strs_of {P : Str → Prop} : ∀ {l : List V}, (∀ y ∈ l, ∃ s, y = .str s ∧ P s) → ∃ ss : List Str, l = ss.map V.str ∧ ∀ s ∈ ss, P s
  | [], _ => ⟨[], rfl, fun _ h => by cases h⟩
  | y :: l, h => by
    obtain ⟨s, rfl, hs⟩ := h y List.mem_cons_self
    obtain ⟨ss, rfl, hss⟩ := strs_of fun z hz => h z (List.mem_cons_of_mem _ hz)
    exact ⟨s :: ss, rfl, fun z hz => (List.mem_cons.mp hz).elim (fun e => e ▸ hs) (hss z)⟩
theorem joinL_in {S : List Nat} : ∀ {ps : List (List Nat)} {c : Nat}, c ∈ TL.joinL S ps → c ∈ S ∨ ∃ p ∈ ps, c ∈ p
  | [], c, h => by cases h
  | [p], c, h => .inr ⟨p, List.mem_cons_self, h⟩
  | p :: q :: ps, c, h => by
    have h' : c ∈ p ++ S ++ TL.joinL S (q :: ps) := by first | exact h | simpa [TL.joinL] using h
    rcases List.mem_append.mp h' with h | h
    · rcases List.mem_append.mp h with h | h
      · exact .inr ⟨p, List.mem_cons_self, h⟩
      · exact .inl h
    · rcases joinL_in h with h | ⟨r, hr, hc⟩
      · exact .inl h
      · exact .inr ⟨r, List.mem_cons_of_mem _ hr, hc⟩
theorem joinL_len {S : List Nat} {m : Nat} : ∀ {ps : List (List Nat)}, (∀ p ∈ ps, p.length ≤ m) → (TL.joinL S ps).length ≤ ps.length * (m + S.length)
  | [], _ => by simp [TL.joinL]
  | [p], h => by
    have := h p List.mem_cons_self
    show p.length ≤ _
    simp
    omega
  | p :: q :: ps, h => by
    have h1 := h p List.mem_cons_self
    have ih := joinL_len (S := S) (ps := q :: ps) fun r hr => h r (List.mem_cons_of_mem _ hr)
    have e : TL.joinL S (p :: q :: ps) = p ++ S ++ TL.joinL S (q :: ps) := by first | rfl | simp [TL.joinL]
    rw [e, List.length_append, List.length_append, List.length_cons, Nat.succ_mul]
    omega
theorem join_ok {sep : Str} {ss : List Str} {m : Nat} (ho : OkT sep) (hs : ∀ s ∈ ss, OkT s ∧ s.length ≤ m) : OkT (Txt.join sep ss) ∧ (Txt.join sep ss).length ≤ ss.length * (m + sep.length) := by
  rw [TL.join_eq]
  constructor
  · intro c hc
    rw [TL.tl_join] at hc
    rcases joinL_in hc with h | ⟨p, hp, h⟩
    · exact ho c h
    · obtain ⟨s, hs', rfl⟩ := List.mem_map.mp hp
      exact (hs s hs').1 c h
  · rw [← tl_len, TL.tl_join, ← tl_len sep]
    have := joinL_len (S := tl sep) (m := m) (ps := ss.map tl) fun p hp => by
      obtain ⟨s, hs', rfl⟩ := List.mem_map.mp hp
      rw [tl_len]
      exact (hs s hs').2
    rw [List.length_map] at this
    exact this
theorem sum_len {ss : List Str} {m : Nat} (h : ∀ s ∈ ss, s.length ≤ m) : (ss.map (·.length)).sum ≤ ss.length * m := by
  induction ss with
  | nil => simp
  | cons a l ih =>
    rw [List.map_cons, List.sum_cons, List.length_cons, Nat.succ_mul]
    have := h a List.mem_cons_self
    have := ih fun s hs => h s (List.mem_cons_of_mem _ hs)
    omega
end L2
namespace L2
open PySem PySem.Spec PyProof.Rows
theorem forLg {K : PySem.W.Frag} {σ : St} {H : Hp} {D : Ends} {g : TG} {tb : TS} {a : Addr} {xs : List V} (Pv : Nat → St → Hp → Prop) (h0 : Pv 0 σ H) (hl : ∀ i σ' H', i ≤ xs.length → Pv i σ' H' → SqL K H' a xs)
    (hs : ∀ i x σ' H', xs[i]? = some x → Pv i σ' H' → g x σ' H' fun σ2 H2 => tb { D with nx := Pv (i + 1), ct := Pv (i + 1), bk := D.nx } σ2 H2) (hd : ∀ σ' H', Pv xs.length σ' H' → D.nx σ' H') : ForI (Itl K a) g tb D σ H := for_list Pv h0 hl hs hd
theorem hu65 {A : Around} {k : Nat} (hr : Room k A) : A.units + 65 < cLine := by have := hr.un; omega
end L2

/-! ### own errors: made, held as values, read, asked for their class -/
namespace L2
open PySem PySem.Spec PyProof.Rows
def cBody (st : Stmt) : List Stmt := match st with
  | .ClassDef (body := l) .. => l
  | _ => []
/-- the class at C is an own error class over ValueError -/
def xcB (K : PySem.W.Frag) (C : Addr) : Bool := match K.lookup C with
  | some ⟨.type "type", _, .cls cd, sl⟩ => (match cd.mro, sl.toList with
    | .ref D :: bm, [_, _, _, _, some (.builtin n), _] => (D == C && n == "ValueError.__new__") && ((!cd.hasDel && cd.hasDict) && PySem.HandSPX.refsVE bm)
    | _, _ => false)
  | _ => false
def oxB (K : PySem.W.Frag) (C : Addr) : Bool :=
  (xcB K C && PySem.W.keepIn K (.ref C)) && (decide (PySem.W.findIn K (.ref C) "__setattr__" = some (some (.builtin "object.__setattr__"))) && decide (PySem.W.typeIn K (.ref C) = some (.type "type")))
def icB (K : PySem.W.Frag) (C : Addr) : Bool :=
  ((PySem.W.clsIn K C).isSome && xfB K C) && ((decide (PySem.W.findIn K (.ref C) "__class__" = some (some (.builtin "object.__class__"))) && decide (PySem.W.specialIn K (.builtin "object.__class__") "__get__" = some (some (.builtin "getset_descriptor.__get__")))) &&
    (decide (PySem.W.takesIn K (.builtin "object.__class__") = some true) && decide (PySem.W.mroIn K C (.type "object") = some true)))
def exB (K : PySem.W.Frag) (C : Addr) (fs : List Str) : Bool := (oxB K C && icB K C) && fs.all fun f => decide (PySem.W.findIn K (.ref C) f = some none)
structure IcC (K : PySem.W.Frag) (C : Addr) : Prop where
  cl : (PySem.W.clsIn K C).isSome = true
  xf : XfC K C
  ha : PySem.W.findIn K (.ref C) "__class__" = some (some (.builtin "object.__class__"))
  hn : PySem.W.specialIn K (.builtin "object.__class__") "__get__" = some (some (.builtin "getset_descriptor.__get__"))
  ht : PySem.W.takesIn K (.builtin "object.__class__") = some true
  hm : PySem.W.mroIn K C (.type "object") = some true
theorem icB_ok {K : PySem.W.Frag} {C : Addr} (h : icB K C = true) : IcC K C := by
  unfold icB at h
  simp only [Bool.and_eq_true, decide_eq_true_eq] at h
  obtain ⟨⟨h1, h2⟩, ⟨h3, h4⟩, h5, h6⟩ := h
  exact ⟨h1, xfB_ok h2, h3, h4, h5, h6⟩
structure ExF (K : PySem.W.Frag) (C : Addr) (fs : List Str) : Prop where
  ox : OexC K C
  ic : IcC K C
  no : ∀ f ∈ fs, PySem.W.findIn K (.ref C) f = some none
theorem exB_ok {K : PySem.W.Frag} {C : Addr} {fs : List Str} (h : exB K C fs = true) : ExF K C fs := by
  unfold exB at h
  rw [Bool.and_eq_true, Bool.and_eq_true] at h
  obtain ⟨⟨h1, h2⟩, h3⟩ := h
  have I := icB_ok h2
  refine ⟨?_, I, fun f hf => of_decide_eq_true (List.all_eq_true.mp h3 f hf)⟩
  unfold oxB at h1
  simp only [Bool.and_eq_true, decide_eq_true_eq] at h1
  obtain ⟨⟨q, hk⟩, hs, ht⟩ := h1
  refine ⟨?_, hs, I.xf.exC, ht, hk⟩
  unfold xcB at q
  split at q
  · rename_i dd cd sl ho
    split at q
    · rename_i D bm m0 m1 m2 m3 n m5 hm hl
      simp only [Bool.and_eq_true, beq_iff_eq, Bool.not_eq_true'] at q
      obtain ⟨⟨rfl, rfl⟩, ⟨hdel, hdct⟩, hr⟩ := q
      obtain ⟨nm, bs, mro, ns, qn, hd, sn, sub, ab, col, del⟩ := cd
      dsimp only at hm hdel hdct
      subst hm hdel hdct
      have e : sl = #[m0, m1, m2, m3, some (.builtin "ValueError.__new__"), m5] := by
        obtain ⟨l⟩ := sl
        simp only at hl
        rw [hl]
      subst e
      exact ⟨nm, qn, ns, bs, bm, sn, sub, ab, col, dd, m0, m1, m2, m3, m5, ho, hr⟩
    · cases q
  · cases q
/-- the class at B over which they stand -/
structure BaseC (K : PySem.W.Frag) (B : Addr) : Prop where
  rd : PySem.W.readsIn K B (.type "type") = true
  ga : PySem.W.specialIn K (.ref B) "__getattribute__" = some (some (.builtin "type.__getattribute__"))
  at_ : PySem.W.findCls K (.ref B) (.type "type") "__init__" = some (.val (.builtin "ValueError.__init__"))
def baseB (K : PySem.W.Frag) (B : Addr) : Bool := PySem.W.readsIn K B (.type "type") && (decide (PySem.W.specialIn K (.ref B) "__getattribute__" = some (some (.builtin "type.__getattribute__"))) && (match PySem.W.findCls K (.ref B) (.type "type") "__init__" with | some (.val (.builtin n)) => n == "ValueError.__init__" | _ => false))
theorem baseB_ok {K : PySem.W.Frag} {B : Addr} (h : baseB K B = true) : BaseC K B := by
  unfold baseB at h
  simp only [Bool.and_eq_true, decide_eq_true_eq] at h
  obtain ⟨h1, h2, h3⟩ := h
  split at h3
  · rename_i n e
    rw [beq_iff_eq] at h3
    subst h3
    exact ⟨h1, h2, e⟩
  · cases h3
section
variable {X : Cx} {a1 : Expr} {ar : List Expr} {ta : TA} {x : Str} {q1 q2 qc : Pos} {B : Addr}
theorem pe_binit {pl : Sem Bool} (hg : Gl X x) (hm : X.mg x = some (.ref B)) (T : BaseC X.K B) (ha : PA X (a1 :: ar) ta)
    (hcal : eval (.Call (.Attribute (.Name x q1) "__init__" q2) (a1 :: ar) [] qc) X.env = (eval (.Name x q1) X.env >>= fun ov => standAt q2.atName >>= fun _ => holding [ov] (getMethod ov "__init__" pl) >>= fun r => callWith qc r.1 r.2 (backTo qc (starEach (a1 :: ar) X.env)) (backToKw qc (keywordEach [] X.env))) := by rfl)
    (hst : starEach (a1 :: ar) X.env = (false, eval a1 X.env) :: starEach ar X.env := by rfl) (hps : (backTo qc (starEach ar X.env)).any (·.1) = false := by rfl) (hdb : (x == ("__debug__" : Str)) = false := by decide) :
    PE X (.Call (.Attribute (.Name x q1) "__init__" q2) (a1 :: ar) [] qc) (tVeI X.K ta) := by
  refine ⟨fun pins s σ H Q I h => ?_⟩
  refine PySem.W.methodCall_KW (ld_glob I hg hm ?_ hdb) hcal
  refine PySem.W.method_cls I.kIn T.ga (PySem.W.cls_value I.kIn T.rd T.at_ (by decide +kernel) ?_)
  show wpAny _ _ (callWith qc (Value.builtin "ValueError.__init__") [] (backTo qc (starEach (a1 :: ar) X.env)) []) _ _ _
  refine PyProof.Rows.callWith_method1 (thn (ha.run qc pins _ σ H _ (I.tok _) h) fun us s1 hh => ?_) hst hps
  obtain ⟨vs, H1, I1, r1, a, C, ws, ev, hl, OC, ea, q⟩ := hh
  subst ev
  cases r1 with
  | @cons _ u0 _ ur ra rr =>
    obtain rfl : u0 = Value.ref a := ra
    exact oinit_ok OC I1 ea (by rw [← Paired.length rr, sizeLine_eq]; omega) fun s' J => ⟨.non, H1, J, rfl, q⟩
/-- C(e, ..) as a value, its own __init__ keeping sp -/
def tMkV (C : Addr) (sp : Sp) (ta : TA) : TE := fun σ H Q => ta σ H fun vs H1 => vs.length ≤ 1000 ∧ ∀ a, H1 a = none → sp (.ref a :: vs) (upd H1 a (exo a C none)) (fun v H2 => v = .non ∧ Q (.ref a) H2) (fun _ _ _ => False)
theorem pe_mkv {CX : CXT} {C fI : Addr} {k : Nat} {fd : FuncData} {ps : List Str} {sp : Sp} (T : OexC X.K C) (iC : PySem.W.findIn X.K (.ref C) "__init__" = some (some (.ref fI))) (tI : PySem.W.typeIn X.K (.ref fI) = some (.type "function"))
    (F1 : FnOk X.prog X.w X.K X.mg X.base CX k fI fd ps sp) (hr : Room (k + 1) X.A) (hb : Binds X.K fd ps []) (hx : Passes CX X (fun _ _ _ => False)) (hg : Gl X x) (hm : X.mg x = some (.ref C)) (ha : PA X (a1 :: ar) ta)
    (hdb : (x == ("__debug__" : Str)) = false := by decide) (hst : starEach (a1 :: ar) X.env = (false, eval a1 X.env) :: starEach ar X.env := by rfl) (hps : (backTo qc (starEach ar X.env)).any (·.1) = false := by rfl) :
    PE X (.Call (.Name x q1) (a1 :: ar) [] qc) (tMkV C sp ta) := by
  refine ⟨fun pins s σ H Q I h => ?_⟩
  obtain ⟨nm, q, N, bs, bm, sn, sub, ab, col, dd, k0, k1, k2, k3, k5, hC, hbm⟩ := T.cls
  refine wpAny_Call_Name_kw (ld_glob I hg hm ?_ hdb)
  refine PySem.W.callWith_K (h₀ := X.base) I.ok.mod.kin T.kC (thn (ha.run qc pins s σ H _ I h) fun us s1 hh => ?_) hst hps
  obtain ⟨vs, H1, I1, r1, hz, qq⟩ := hh
  refine ⟨I1.kIn, ?_⟩
  show wpAny _ _ (call (.ref C) us) _ _ _
  obtain ⟨hp, g, dr, tk, os⟩ := s1
  have le1 : hp.objs.size ≤ hp.objs.size + 1 := Nat.le_succ _
  have hn : H1 (hp.objs.size + 1) = none := I1.hok.fresh le1
  have hq := qq (hp.objs.size + 1) hn
  have kep : ∀ b o, hp.get? b = some o → ((hp.push (PySem.W.kdv_tup us)).push (PySem.HandSPX.excO C hp.objs.size)).get? b = some o := fun b o z => Heap.get?_push_of_some _ (Heap.get?_push_of_some _ z)
  have hget : ((hp.push (PySem.W.kdv_tup us)).push (PySem.HandSPX.excO C hp.objs.size)).get? (hp.objs.size + 1) = some (PySem.HandSPX.excO C hp.objs.size) := by heap_get
  have J2 : Inv X pins σ (upd H1 (hp.objs.size + 1) (exo (hp.objs.size + 1) C none)) ⟨(hp.push (PySem.W.kdv_tup us)).push (PySem.HandSPX.excO C hp.objs.size), g, dr, tk, os⟩ :=
    I1.laid (t' := tk) (a := hp.objs.size + 1) (o := exo (hp.objs.size + 1) C none) (h' := (hp.push (PySem.W.kdv_tup us)).push (PySem.HandSPX.excO C hp.objs.size)) kep le1 (exo_ok hget)
  have rv2 : Vals (V.ref (hp.objs.size + 1) :: vs) (Value.ref (hp.objs.size + 1) :: us) := .cons rfl r1
  have hlen : (Value.ref (hp.objs.size + 1) :: us ++ []).length = ps.length := by
    have z := rv2.length
    rw [F1.len _ _ _ _ hq] at z
    rw [List.append_nil]
    exact z.symm
  have hus : us.length ≤ sizeLine := by
    rw [← Paired.length r1, sizeLine_eq]
    omega
  refine wpAny_call (PySem.HandSPX.call_own F.excBase_ValueError (fun Y => PySem.HandSPX.refsVE_contains Y bm hbm) (I1.kIn _ _ hC) (PySem.W.looks_findIn I1.kIn iC) (fun self => PySem.W.bind_fn I1.kIn self tI) hus ?_)
  have hbb := hb _ (Value.ref (hp.objs.size + 1) :: us) J2.kIn hlen
  rw [List.append_nil] at hbb
  refine codeAny_mono (F1.run _ X.stack _ _ ⟨Value.ref (hp.objs.size + 1) :: us, []⟩ (Value.ref (hp.objs.size + 1) :: us) _ _ (fun _ _ _ => False) (hr.make C us []) (J2.env0.make C us []) hbb rv2 hq) fun r s' hq' => ?_
  cases r with
  | error er => exact hx pins σ _ _ er s' J2 hq'
  | ok fl =>
    cases fl with
    | ret u =>
      obtain ⟨v, H2, os2, bare2, un2, hok2, rv, ev, q2⟩ := hq'
      subst ev
      exact ⟨rv, .ref _, H2, J2.call' (ch := []) os2 un2 hok2 bare2 (fun b z => absurd z (by simp)), rfl, q2⟩
    | next => exact False.elim hq'
    | brk => exact False.elim hq'
    | cont => exact False.elim hq'
/-- an error of the class at D stands at a -/
def ErrAt (H : Hp) (a D : Addr) : Prop := (∃ (d : Addr) (fs : List (Str × V)), H a = some (exo a D (some d)) ∧ H d = some (exd d fs)) ∨ H a = some (ExO (.ref D) a)
theorem err_inst {pins : List (Addr × Obj)} {σ : St} {H : Hp} {s : Shared} {a D : Addr} (I : Inv X pins σ H s) (h : ErrAt H a D) : ∃ ox od, PySem.W.InstAt s.heap a ox D od := by
  rcases h with ⟨d, fs, h1, h2⟩ | h1
  · obtain ⟨t1, ho⟩ := exo_at I.hok h1
    obtain ⟨mA, hns, _⟩ := exd_at I.hok h2
    obtain ⟨od, hod, _⟩ := lookIn_ns hns
    exact ⟨_, some od, ho, rfl, rfl, hod⟩
  · have z : ObjOk X.prog X.w H s.heap a (ExO (.ref D) a) := I.hok a _ h1
    obtain ⟨⟨oe, vs, e, zc, d, _⟩, _⟩ := z
    refine ⟨oe, none, e, zc.1, by unfold PySem.W.notCls; rw [d] <;> rfl, ?_⟩
    rw [zc.2]
    trivial
/-- isinstance(e, c) of such an error -/
def rIsX (K : PySem.W.Frag) : List V → Hp → VK → Prop := fun xs H Q => ∃ (a D : Addr) (c : V) (cv : Value) (b : Bool), xs = [.ref a, c] ∧ ClsV c cv ∧ IcC K D ∧ ErrAt H a D ∧ PySem.W.kitOne K (.ref D) cv = some b ∧ Q (.bl b) H
theorem call_isX : CallR X (.builtin "isinstance") (rIsX X.K) := by
  intro pins s σ H xs us Q I r h
  obtain ⟨a, D, c, cv, b, rfl, hcv, C, he, e, q⟩ := h
  cases r with
  | cons rx rr =>
    cases rr with
    | cons rt rn =>
      cases rn
      cases rx
      have ec := hcv.eq rt
      subst ec
      obtain ⟨ox, od, J⟩ := err_inst I he
      exact PySem.W.kia_one (PySem.W.kitx_exc C.cl C.xf.ga C.xf.gg C.xf.exC C.ha C.hn C.ht C.hm) I.kIn J e (fun z => nomatch z) fun tk => ⟨.bl b, H, I.kept (t' := tk) fun _ _ z => z, rfl, q⟩
/-- e.f of such an error -/
def tXfV (K : PySem.W.Frag) (f : Str) (te : TE) : TE := fun σ H Q => te σ H fun x H1 => ∃ (a C d : Addr) (fs : List (Str × V)) (v : V), x = .ref a ∧ XfC K C ∧ PySem.W.findIn K (.ref C) f = some none ∧ H1 a = some (exo a C (some d)) ∧ H1 d = some (exd d fs) ∧ fs.lookup f = some v ∧ Q v H1
theorem pe_xfv {e : Expr} {te : TE} {f : Str} (he : PE X e te) (hb : attributeBase e f X.env (eval e X.env) = eval e X.env := by rfl) : PE X (.Attribute e f qc) (tXfV X.K f te) := by
  refine ⟨fun pins s σ H Q I h => ?_⟩
  refine attr_of hb (thn (he.run pins s σ H _ I h) fun u s1 hh => ?_)
  obtain ⟨x, H1, I1, rx, a, C, d, fs, v, rfl, T, hno, ea, ed, l, q⟩ := hh
  obtain rfl : u = Value.ref a := rx
  obtain ⟨t1, ho⟩ := exo_at I1.hok ea
  obtain ⟨mA, hns, hr⟩ := exd_at I1.hok ed
  obtain ⟨od, hod, hl⟩ := lookIn_ns hns
  obtain ⟨u, hu, ru⟩ := RelO.some_of (v := v) (o := mA f) (by rw [← l]; exact hr f)
  have J : PySem.W.InstAt s1.heap a _ C (some od) := ⟨ho, rfl, rfl, hod⟩
  exact HandSPX.exc_get I1.kIn J T.ga T.gg T.exC (PySem.W.findObj_own T.hdC hno rfl (by rw [hl, hu])) (handed_of ru) ⟨v, H1, I1.tok _, ru, q⟩
/-- one rule or the other -/
theorem op_or2 {f : Value → Value → Sem Value} {r r' : R2} (h : OpR X f r) (h' : OpR X f r') : OpR X f (fun x y H Q => r x y H Q ∨ r' x y H Q) := by
  intro pins s σ H x y v u Q I rx ry q
  rcases q with q | q
  · exact h pins s σ H x y v u Q I rx ry q
  · exact h' pins s σ H x y v u Q I rx ry q
end
end L2
namespace L2
open PySem PySem.Spec PyProof.Rows
/-- what __init__ of such a class keeps: one field, two fields -/
def sp_err1 (C : Addr) (f : Str) : Sp := fun vs H Q _ => ∃ (a : Addr) (v : V), vs = [.ref a, v] ∧ H a = some (exo a C none) ∧ ∀ d H2, H d = none → d ≠ a → (∀ b, b ≠ a → b ≠ d → H2 b = H b) → H2 a = some (exo a C (some d)) → H2 d = some (exd d [(f, v)]) → Q .non H2
def sp_err2 (C : Addr) (f g : Str) : Sp := fun vs H Q _ => ∃ (a : Addr) (v w : V), vs = [.ref a, v, w] ∧ H a = some (exo a C none) ∧ ∀ d H2, H d = none → d ≠ a → (∀ b, b ≠ a → b ≠ d → H2 b = H b) → H2 a = some (exo a C (some d)) → H2 d = some (exd d [(g, w), (f, v)]) → Q .non H2
section
variable {K : PySem.W.Frag} {C a : Addr} {f g z : Str} {v w : V} {H : Hp} {Q : VK}
theorem err1_run (T : OexC K C) (n1 : PySem.W.findIn K (.ref C) f = some none) (ha : H a = some (exo a C none)) (k : ∀ d H2, H d = none → d ≠ a → (∀ b, b ≠ a → b ≠ d → H2 b = H b) → H2 a = some (exo a C (some d)) → H2 d = some (exd d [(f, v)]) → Q .non H2) :
    tSeq (tDrop (tVeI K (tCons (tVar 0) (tCons (tC (.str z)) tNil)))) (tOst K f (tVar 0) (tVar 1)) { nx := fun _ H' => Q .non H', rt := Q } [some (.ref a), some v] H := by
  refine ⟨_, rfl, a, C, _, rfl, (by show 1 ≤ 1000; omega), T, ha, _, rfl, _, rfl, a, C, rfl, T, n1, .inl ⟨ha, fun d hd hne => ?_⟩⟩
  refine k d _ hd hne (fun b h1 h2 => by rw [upd_ne h1, upd_ne h2]) upd_same ?_
  rw [upd_ne hne, upd_same]
theorem err2_run (T : OexC K C) (n1 : PySem.W.findIn K (.ref C) f = some none) (n2 : PySem.W.findIn K (.ref C) g = some none) (ha : H a = some (exo a C none)) (k : ∀ d H2, H d = none → d ≠ a → (∀ b, b ≠ a → b ≠ d → H2 b = H b) → H2 a = some (exo a C (some d)) → H2 d = some (exd d [(g, w), (f, v)]) → Q .non H2) :
    tSeq (tDrop (tVeI K (tCons (tVar 0) (tCons (tC (.str z)) tNil)))) (tSeq (tOst K f (tVar 0) (tVar 1)) (tOst K g (tVar 0) (tVar 2))) { nx := fun _ H' => Q .non H', rt := Q } [some (.ref a), some v, some w] H := by
  refine ⟨_, rfl, a, C, _, rfl, (by show 1 ≤ 1000; omega), T, ha, _, rfl, _, rfl, a, C, rfl, T, n1, .inl ⟨ha, fun d hd hne => ?_⟩⟩
  have e1 : upd (upd H d (exd d [(f, v)])) a (exo a C (some d)) d = some (exd d [(f, v)]) := by rw [upd_ne hne, upd_same]
  refine ⟨_, rfl, _, rfl, a, C, rfl, T, n2, .inr ⟨d, _, upd_same, e1, (by show 1 ≤ 900; omega), ?_⟩⟩
  refine k d _ hd hne (fun b h1 h2 => by rw [upd_ne h2, upd_ne h1, upd_ne h2]) ?_ upd_same
  rw [upd_ne hne.symm, upd_same]
theorem c_xfv {te : TE} {σ : St} (h : te σ H fun x H1 => ∃ (a C d : Addr) (fs : List (Str × V)) (v : V), x = .ref a ∧ XfC K C ∧ PySem.W.findIn K (.ref C) f = some none ∧ H1 a = some (exo a C (some d)) ∧ H1 d = some (exd d fs) ∧ fs.lookup f = some v ∧ Q v H1) : tXfV K f te σ H Q := h
/-- the same, what is asked told by one word -/
def MkE (C : Addr) (sp : Sp) (vs : List V) (H : Hp) (Q : VK) : Prop := vs.length ≤ 1000 ∧ ∀ a, H a = none → sp (.ref a :: vs) (upd H a (exo a C none)) (fun v H2 => v = .non ∧ Q (.ref a) H2) (fun _ _ _ => False)
theorem c_mkv {sp : Sp} {ta : TA} {σ : St} (h : ta σ H fun vs H1 => MkE C sp vs H1 Q) : tMkV C sp ta σ H Q := h
/-- an error of the class at C with these fields, at a, its dict at d -/
def Er (H : Hp) (a C d : Addr) (fs : List (Str × V)) : Prop := H a = some (exo a C (some d)) ∧ H d = some (exd d fs)
theorem Er.up {H H2 : Hp} {a C d : Addr} {fs : List (Str × V)} (h : Er H a C d fs) (e : Evl.Ex H H2) : Er H2 a C d fs := ⟨e _ _ h.1, e _ _ h.2⟩
theorem Er.at {H : Hp} {a C d : Addr} {fs : List (Str × V)} (h : Er H a C d fs) : ErrAt H a C := .inl ⟨d, fs, h.1, h.2⟩
theorem mkv1 (k : ∀ a d H2, H a = none → H d = none → Evl.Ex H H2 → Er H2 a C d [(f, v)] → Q (.ref a) H2) : MkE C (sp_err1 C f) [v] H Q := by
  refine ⟨by show 1 ≤ 1000; omega, fun a ha => ⟨a, v, rfl, upd_same, fun d H2 hd hne hk h1 h2 => ⟨rfl, ?_⟩⟩⟩
  rw [upd_ne hne] at hd
  refine k a d H2 ha hd (fun b o hb => ?_) ⟨h1, h2⟩
  have nb := ne_of_none hb ha
  rw [hk b nb (ne_of_none hb hd), upd_ne nb]
  exact hb
theorem mkv2 (k : ∀ a d H2, H a = none → H d = none → Evl.Ex H H2 → Er H2 a C d [(g, w), (f, v)] → Q (.ref a) H2) : MkE C (sp_err2 C f g) [v, w] H Q := by
  refine ⟨by show 2 ≤ 1000; omega, fun a ha => ⟨a, v, w, rfl, upd_same, fun d H2 hd hne hk h1 h2 => ⟨rfl, ?_⟩⟩⟩
  rw [upd_ne hne] at hd
  refine k a d H2 ha hd (fun b o hb => ?_) ⟨h1, h2⟩
  have nb := ne_of_none hb ha
  rw [hk b nb (ne_of_none hb hd), upd_ne nb]
  exact hb
end
end L2
namespace L2
open PySem PySem.Spec PyProof.Rows
/-- of the error classes Cs each is of itself alone, of B, of ValueError -/
def kinB (K : PySem.W.Frag) (Cs : List Addr) : Bool := (List.range Cs.length).all fun i => (List.range Cs.length).all fun j => match Cs[i]?, Cs[j]? with
  | some D, some C => decide (PySem.W.kitOne K (.ref D) (.ref C) = some (decide (i = j)))
  | _, _ => true
def famB (K : PySem.W.Frag) (B : Addr) (Cs : List Addr) : Bool := (Cs.all fun D => decide (PySem.W.kitOne K (.ref D) (.ref B) = some true) && (decide (PySem.W.kitOne K (.ref D) (.type "ValueError") = some true) && decide (PySem.W.kitOne K (.ref B) (.ref D) = some false))) && (decide (PySem.W.kitOne K (.ref B) (.type "ValueError") = some true) && kinB K Cs)
structure Fam (K : PySem.W.Frag) (B : Addr) (Cs : List Addr) : Prop where
  b : ∀ D ∈ Cs, PySem.W.kitOne K (.ref D) (.ref B) = some true
  v : ∀ D ∈ Cs, PySem.W.kitOne K (.ref D) (.type "ValueError") = some true
  n : ∀ D ∈ Cs, PySem.W.kitOne K (.ref B) (.ref D) = some false
  bv : PySem.W.kitOne K (.ref B) (.type "ValueError") = some true
  k : ∀ (i j : Nat) (D C : Addr), Cs[i]? = some D → Cs[j]? = some C → PySem.W.kitOne K (.ref D) (.ref C) = some (decide (i = j))
theorem famB_ok {K : PySem.W.Frag} {B : Addr} {Cs : List Addr} (h : famB K B Cs = true) : Fam K B Cs := by
  unfold famB at h
  rw [Bool.and_eq_true, Bool.and_eq_true] at h
  obtain ⟨h1, h2, h3⟩ := h
  have h1' := List.all_eq_true.mp h1
  simp only [Bool.and_eq_true, decide_eq_true_eq] at h1'
  refine ⟨fun D hD => (h1' D hD).1, fun D hD => (h1' D hD).2.1, fun D hD => (h1' D hD).2.2, of_decide_eq_true h2, fun i j D C hi hj => ?_⟩
  unfold kinB at h3
  have q := List.all_eq_true.mp (List.all_eq_true.mp h3 i (List.mem_range.mpr (List.getElem?_eq_some_iff.mp hi).1)) j (List.mem_range.mpr (List.getElem?_eq_some_iff.mp hj).1)
  rw [hi, hj] at q
  exact of_decide_eq_true q
theorem ErrAt.up {H H2 : Hp} {a D : Addr} (h : ErrAt H a D) (e : Evl.Ex H H2) : ErrAt H2 a D := by
  rcases h with ⟨d, fs, h1, h2⟩ | h1
  · exact .inl ⟨d, fs, e _ _ h1, e _ _ h2⟩
  · exact .inr (e _ _ h1)
theorem is_x {K : PySem.W.Frag} {H : Hp} {Q : VK} {a D : Addr} {c : V} {cv : Value} {b : Bool} (hc : ClsV c cv) (ic : IcC K D) (h : ErrAt H a D) (e : PySem.W.kitOne K (.ref D) cv = some b) (q : Q (.bl b) H) : rIsX K [.ref a, c] H Q := ⟨a, D, c, cv, b, rfl, hc, ic, h, e, q⟩
end L2

/-! ### more loops, more comparisons -/
namespace L2
open PySem PySem.Spec PyProof.Rows
section
variable {K : PySem.W.Frag} {σ : St} {H : Hp} {D : Ends} {Q : VK} {g : TG} {tb : TS} {tt : TT} {te : TE} {vs : List Nat} {ta : TA}
theorem c_forE (h : ta σ H fun ws H1 => ∃ a xs, ws = [.ref a] ∧ SqL K H1 a xs ∧ ForI (Ite K a) g tb D σ H1) : tFor (iEnum K ta) g tb D σ H := h
theorem c_lcZi (h : ta σ H fun ws H1 => ∃ a b xs ys, ws = [.ref a, .ref b] ∧ SqL K H1 a xs ∧ SqL K H1 b ys ∧ LcI (Itz K a b) g tt te vs σ H1 Q) : tLc (iZip K ta) g tt te vs σ H Q := h
/-- for i, x in enumerate(l) -/
theorem forE {a : Addr} {xs : List V} (Pv : Nat → St → Hp → Prop) (h0 : Pv 0 σ H) (hl : ∀ i σ' H', i ≤ xs.length → Pv i σ' H' → SqL K H' a xs)
    (hs : ∀ i x T σ' H', xs[i]? = some x → Pv i σ' H' → H' T = none → g (.ref T) σ' (upd H' T (.tup [.int (i : Nat), x])) fun σ2 H2 => tb { D with nx := Pv (i + 1), ct := Pv (i + 1), bk := D.nx } σ2 H2)
    (hd : ∀ σ' H', Pv xs.length σ' H' → D.nx σ' H') : ForI (Ite K a) g tb D σ H :=
  for_it walk_enum Pv h0 (fun i σ' H' hi p => hl i σ' H' hi p) (fun i v σ' H' H'' hi p y => by
    obtain ⟨T, x, z, rfl, hT, rfl, ex, ez⟩ := y
    cases ex
    exact hs i z T σ' H' ez p hT) hd
/-- [.. for x in l], each thing made so that P holds of it, whatever is done to the list or made behind it -/
theorem lcLP {a : Addr} {xs : List V} (P : Addr → Nat → V → Hp → Prop) (hst : ∀ D i y G G2, ExB D G G2 → P D i y G → P D i y G2) (hs : SqL K H a xs) (hn : xs.length ≤ 1000)
    (ht : ∀ (D : Addr) (i : Nat) (x : V), H D = none → xs[i]? = some x → ∀ H2, Evl.Ex H H2 → (∃ o, H2 D = some o) → ∀ (R : V → Hp → Prop) (N : Hp → Prop), (∀ y H3, Evl.Ex H2 H3 → P D i y H3 → R y H3) →
      g x (wipe σ vs) H2 fun σ2 H3 => wipe σ2 vs = wipe σ vs ∧ tt σ2 H3 fun c H4 => if c = true then te σ2 H4 fun y H5 => R y H5 else N H4)
    (k : ∀ ys p H2, ys.length = xs.length → (∀ i y, ys[i]? = some y → P p i y H2) → H p = none → Evl.Ex H H2 → H2 p = some (.lst ys) → Q (.ref p) H2) : LcI (Itl K a) g tt te vs σ H Q := by
  refine fun D hD => ?_
  have ex : ∀ {G : Hp} {o : HO}, Evl.Ex H G → Evl.Ex H (upd G D o) := fun e b u hb => by rw [upd_ne (ne_of_none hb hD)]; exact e b u hb
  refine lc_list (xs := xs) (fun i H' => i ≤ xs.length ∧ Evl.Ex H H' ∧ ∃ ys, ys.length = i ∧ (∀ j y, ys[j]? = some y → P D j y H') ∧ H' D = some (.lst ys))
    ⟨Nat.zero_le _, ex (Evl.Ex.refl _), [], rfl, (fun j y h => by simp at h), upd_same⟩ (fun i H' _ p => Evl.ex_l p.2.1 hs) (fun i x H' hi p => ?_) (fun H' p => ?_)
  · obtain ⟨_, e1, ys, hl, hy, hD'⟩ := p
    have hil := (List.getElem?_eq_some_iff.mp hi).1
    refine ht D i x hD hi H' e1 ⟨_, hD'⟩ (fun y H4 => ∃ acc, H4 D = some (.lst acc) ∧ acc.length < sizeLine ∧ (i + 1 ≤ xs.length ∧ Evl.Ex H (upd H4 D (.lst (acc ++ [y]))) ∧ ∃ zs, zs.length = i + 1 ∧ (∀ j y2, zs[j]? = some y2 → P D j y2 (upd H4 D (.lst (acc ++ [y])))) ∧ upd H4 D (.lst (acc ++ [y])) D = some (.lst zs))) _ (fun y H3 e3 py => ?_)
    have eD : ExB D H3 (upd H3 D (.lst (ys ++ [y]))) := fun b o nb hb => by rw [upd_ne nb]; exact hb
    refine ⟨ys, e3 _ _ hD', Evl.sz_lt (by omega), hil, ex (e1.trans e3), ys ++ [y], by rw [List.length_append, hl]; rfl, fun j y2 hj => ?_, upd_same⟩
    rcases Nat.lt_or_ge j ys.length with h | h
    · rw [List.getElem?_append_left h] at hj
      exact hst _ _ _ _ _ eD (hst _ _ _ _ _ (fun b o _ hb => e3 b o hb) (hy j y2 hj))
    · rw [List.getElem?_append_right h] at hj
      have hj0 : j - ys.length = 0 := by
        have := (List.getElem?_eq_some_iff.mp hj).1
        rw [List.length_singleton] at this
        omega
      rw [hj0] at hj
      have hyy : y = y2 := by simpa using hj
      subst hyy
      have : j = i := by omega
      subst this
      exact hst _ _ _ _ _ eD py
  · obtain ⟨_, e1, ys, hl, hy, hD'⟩ := p
    exact k ys D H' hl hy hD e1 hD'
/-- what stands outside of S stays -/
def ExS (S : Addr → Prop) (H H2 : Hp) : Prop := ∀ a o, ¬ S a → H a = some o → H2 a = some o
theorem ExS.refl {S : Addr → Prop} (H : Hp) : ExS S H H := fun _ _ _ h => h
theorem ExS.trans {S : Addr → Prop} {H H2 H3 : Hp} (h : ExS S H H2) (k : ExS S H2 H3) : ExS S H H3 := fun a o n q => k a o n (h a o n q)
theorem ExS.of {S : Addr → Prop} {H H2 : Hp} (h : Evl.Ex H H2) : ExS S H H2 := fun a o _ q => h a o q
/-- [f(x, y) for x, y in zip(l, m)], where each answer is True, and only what is in S may change -/
theorem lcZ {S : Addr → Prop} {a b : Addr} {xs ys : List V} (J : Nat → Hp → Prop) (hab : xs.length = ys.length) (hn : xs.length ≤ 1000) (ha : ∀ G, ExS S H G → SqL K G a xs) (hb : ∀ G, ExS S H G → SqL K G b ys) (h0 : J 0 H) (hJ : ∀ i G D o, H D = none → J i G → J i (upd G D o)) (hS : ∀ z, S z → H z ≠ none)
    (ht : ∀ (i : Nat) (x y : V), xs[i]? = some x → ys[i]? = some y → ∀ H2 T, ExS S H H2 → J i H2 → H2 T = none → ∀ (R : V → Hp → Prop) (N : Hp → Prop), (∀ H3, ExS S (upd H2 T (.tup [x, y])) H3 → J (i + 1) H3 → R (.bl true) H3) →
      g (.ref T) (wipe σ vs) (upd H2 T (.tup [x, y])) fun σ2 H3 => wipe σ2 vs = wipe σ vs ∧ tt σ2 H3 fun c H4 => if c = true then te σ2 H4 fun y H5 => R y H5 else N H4)
    (k : ∀ p H2, H p = none → ExS S H H2 → J xs.length H2 → H2 p = some (.lst (List.replicate xs.length (.bl true))) → Q (.ref p) H2) : LcI (Itz K a b) g tt te vs σ H Q := by
  refine fun D hD => ?_
  have nSD : ¬ S D := fun z => hS D z hD
  have ex : ∀ {G : Hp} {o : HO}, ExS S H G → ExS S H (upd G D o) := fun e c u nc hc => by rw [upd_ne (ne_of_none hc hD)]; exact e c u nc hc
  refine lc_it (walk_zip (xs := xs) (ys := ys) (n := xs.length) (by omega)) (fun i H' => i ≤ xs.length ∧ ExS S H H' ∧ J i H' ∧ H' D = some (.lst (List.replicate i (.bl true)))) ⟨Nat.zero_le _, ex (ExS.refl _), hJ _ _ _ _ hD h0, upd_same⟩ (fun i H' _ p => ⟨ha _ p.2.1, hb _ p.2.1⟩) (fun i v H' H'' hi p y => ?_) (fun H' p => k D H' hD p.2.1 p.2.2.1 p.2.2.2)
  obtain ⟨T, x, z, rfl, hT, rfl, ex1, ez⟩ := y
  obtain ⟨_, e1, j1, hD'⟩ := p
  have nTD : D ≠ T := ne_of_none hD' hT
  refine ht i x z ex1 ez H' T e1 j1 hT (fun y H4 => ∃ acc, H4 D = some (.lst acc) ∧ acc.length < sizeLine ∧ (i + 1 ≤ xs.length ∧ ExS S H (upd H4 D (.lst (acc ++ [y]))) ∧ J (i + 1) (upd H4 D (.lst (acc ++ [y]))) ∧ upd H4 D (.lst (acc ++ [y])) D = some (.lst (List.replicate (i + 1) (.bl true))))) _ (fun H3 e3 j3 => ?_)
  refine ⟨_, e3 D _ nSD (by rw [upd_ne nTD]; exact hD'), ?_, hi, ex ?_, hJ _ _ _ _ hD j3, ?_⟩
  · rw [List.length_replicate]
    exact Evl.sz_lt (by omega)
  · refine fun c o nc hc => e3 c o nc ?_
    have h1 := e1 c o nc hc
    rw [upd_ne (ne_of_none h1 hT)]
    exact h1
  · rw [upd_same, List.replicate_succ'] <;> rfl
end
/-! == and != of dicts of flat things -/
def eqK (ks ls : List (Key × V)) : Bool := ks.length == ls.length && ks.all fun p => match valV ls p.1 with
  | some u => eqV p.2 u
  | none => false
section
variable {X : Cx} {pins : List (Addr × Obj)} {σ : St} {H : Hp} {s : Shared}
theorem hitsK (I : Inv X pins σ H s) (hu : X.A.units + 66 < cLine) {ls : List (Key × V)} {vb : List (Key × Value)} (rb : KV ls vb) (fl : ∀ k u, valV ls k = some u → okV u = true) {ks : List (Key × V)} {va : List (Key × Value)} (ra : KV ks va) (fk : ∀ p ∈ ks, okV p.2 = true) :
    PySem.W.KeqHits X.A.in1 s vb va (ks.all fun p => match valV ls p.1 with | some u => eqV p.2 u | none => false) := by
  unfold KV at ra
  induction ra with
  | nil => exact .nil
  | @cons p q ps qs h t ih =>
    obtain ⟨key, v⟩ := q
    obtain ⟨h1, h2⟩ := h
    have h1' : p.1 = key := h1
    have ih' := ih fun p' hm => fk p' (List.mem_cons_of_mem _ hm)
    rw [List.all_cons]
    have rr : RelO (valV ls p.1) (PySem.valueAt vb p.1) := rb.val p.1
    rw [h1'] at rr ⊢
    cases e : valV ls key with
    | none =>
      rw [e] at rr
      cases e2 : PySem.valueAt vb key with
      | none => exact .miss e2
      | some y =>
        rw [e2] at rr
        exact rr.elim
    | some u =>
      rw [e] at rr
      obtain ⟨y, hy, ry⟩ := rr.some_of
      have fp := fk p List.mem_cons_self
      have fu := fl key u e
      obtain ⟨as, r1⟩ := Dp.reads I (dOf p.2) p.2 v (dp_flat (okV_flat fp)) h2
      obtain ⟨bs, r2⟩ := Dp.reads I (dOf u) u y (dp_flat (okV_flat fu)) ry
      have z := PySem.W.keq_at (A := X.A) r1 r2 (shaped_flat fp) (shaped_flat fu) (by show X.A.units + 1 + 64 < cLine; omega)
      rw [eqv_flat (okV_flat fp) (okV_flat fu)] at z
      exact .hit hy z ih'
def rEqK : R2 := fun x y H Q => ∃ (a b : Addr) (ks ls : List (Key × V)), x = .ref a ∧ y = .ref b ∧ H a = some (.dK ks) ∧ H b = some (.dK ls) ∧ (∀ p ∈ ks, okV p.2 = true) ∧ (∀ k u, valV ls k = some u → okV u = true) ∧ Q (.bl (eqK ks ls)) H
def rNeK : R2 := fun x y H Q => ∃ (a b : Addr) (ks ls : List (Key × V)), x = .ref a ∧ y = .ref b ∧ H a = some (.dK ks) ∧ H b = some (.dK ls) ∧ (∀ p ∈ ks, okV p.2 = true) ∧ (∀ k u, valV ls k = some u → okV u = true) ∧ Q (.bl (!eqK ks ls)) H
theorem op_eqK (hu : X.A.units + 66 < cLine) : OpR X (compareOp .Eq) rEqK := by
  intro pins s σ H x y v u Q I rx ry h
  obtain ⟨a, b, ks, ls, rfl, rfl, ha, hb, fk, fl, q⟩ := h
  cases (show v = Value.ref a from rx)
  cases (show u = Value.ref b from ry)
  obtain ⟨_, ya, va, ra, da⟩ := (show ObjOk X.prog X.w H s.heap a (.dK ks) from I.hok a _ ha)
  obtain ⟨_, yb, vb, rb, db⟩ := (show ObjOk X.prog X.w H s.heap b (.dK ls) from I.hok b _ hb)
  refine PySem.W.keq_eq (knd := mixKind X.prog X.w) ya yb da db (by omega) (fun _ => hitsK I hu rb fl ra fk) ?_
  rw [← ra.length, ← rb.length]
  exact ⟨.bl _, H, I, rfl, q⟩
theorem op_neK (hu : X.A.units + 66 < cLine) : OpR X (compareOp .NotEq) rNeK := by
  intro pins s σ H x y v u Q I rx ry h
  obtain ⟨a, b, ks, ls, rfl, rfl, ha, hb, fk, fl, q⟩ := h
  cases (show v = Value.ref a from rx)
  cases (show u = Value.ref b from ry)
  obtain ⟨_, ya, va, ra, da⟩ := (show ObjOk X.prog X.w H s.heap a (.dK ks) from I.hok a _ ha)
  obtain ⟨_, yb, vb, rb, db⟩ := (show ObjOk X.prog X.w H s.heap b (.dK ls) from I.hok b _ hb)
  refine PySem.W.keq_ne (knd := mixKind X.prog X.w) ya yb da db (by omega) (fun _ => hitsK I hu rb fl ra fk) ?_
  rw [← ra.length, ← rb.length]
  exact ⟨.bl _, H, I, rfl, q⟩
end
theorem hu66 {A : Around} {k : Nat} (hr : Room k A) : A.units + 66 < cLine := by have := hr.un; omega
end L2

/-! ### defs that may show things by repr: no repr stands above them -/
namespace L2
open PySem PySem.Spec PyProof.Rows
/-- FnOk where nothing is being shown yet -/
structure FnG (P : Program) (w : World) (K : PySem.W.Frag) (mg : Str → Option Value) (base : Heap) (CX : CXT) (k : Nat) (f : Addr) (fd : FuncData) (ps : List Str) (sp : Sp) : Prop where
  len : ∀ vs H Q E, sp vs H Q E → vs.length = ps.length
  run : ∀ (A : Around) (outer : List Env) (s : Shared) (H : Hp) (args : Args) (us : List Value) (vs : List V) (Q : VK) (E : XK), A.guards = some [] → Room k A → Env0 P w K mg base A outer s H → BindsTo s fd args (ps.zip us) → Vals vs us → sp vs H Q E →
    codeAny (model P w) A (.call (.ref f) args) (CR CX outer P w H s Q E) s
section
variable {P : Program} {w : World} {K : PySem.W.Frag} {mg : Str → Option Value} {base : Heap} {CX : CXT} {k : Nat} {f : Addr} {fd : FuncData} {ps : List Str} {sp : Sp}
theorem FnOk.g (F : FnOk P w K mg base CX k f fd ps sp) : FnG P w K mg base CX k f fd ps sp := ⟨F.len, fun A o s H ar us vs Q E _ => F.run A o s H ar us vs Q E⟩
theorem deeper_guards {A : Around} {env : Env} : (A.deeper env).guards = A.guards := by
  first
    | rfl
    | simp [Around.deeper]
end
section
variable {P : Program} {w : World} {K : PySem.W.Frag} {mg : Str → Option Value} {base : Heap}
/-- a def by its body, as Fun.ok, the body told that nothing is being shown -/
theorem Fun.okG {x qual : Str} {st : Stmt} {f : Addr} {fd : FuncData} {N ps : List Str} {k : Nat} {sp : Sp} (F : Fun K x qual st f fd) (S : FnScope N ps (defScope st)) (len : ∀ vs H Q E, sp vs H Q E → vs.length = ps.length)
    (hb : ∀ (cdv : Value) (A : Around) (outer : List Env) (s : Shared) (H : Hp) (vs : List V) (Q : VK) (E : XK), A.guards = some [] → Room k (A.deeper (envOfC qual (defScope st) s.heap.objs.size f cdv)) → sp vs H Q E →
      ∃ t, PSs (cxOf CX0 P w K mg base N qual (defScope st) f cdv A outer s H E).nox (defBody st) t ∧ t { nx := fun _ H' => Q .non H', rt := Q } (start N vs) H) : FnG P w K mg base CX0 (k + 1) f fd ps sp := by
  obtain ⟨oc, od, kV, doc, pm, an, cdv, ct, osl, rfl, lk, hcd⟩ := F.ex
  refine ⟨len, fun A outer s H args us vs Q E hgd hr env0 bnd rel hsp => ?_⟩
  have hlv := len _ _ _ _ hsp
  have kin : K.In s.heap := env0.mod.kin.keeps fun b o z => (env0.bs b o z).1
  have nol : s.heap.NoLimit := env0.mod.nolimit.keeps fun b o z => (env0.bs b o z).1
  have knd : ∀ y ∈ ps.zip us, (defScope st).names.lookup y.1 = some .local ∨ ((defScope st).names.lookup y.1 = some .cell ∧ ((cellsFrom (s.heap.objs.size + 1) (defScope st).names []).lookup y.1).isSome = true) := by
    rintro ⟨n, v⟩ hy
    rcases S.par n (List.of_mem_zip hy).1 with q | q
    · exact .inl q
    · exact .inr ⟨q, PySem.W.cellsFrom_some _ _ _ (.inl q)⟩
  refine codeAny_call_function hr.depth (kin _ _ lk) rfl S.co S.gen rfl (PySem.W.codeRec_of kin hcd) (bnd _ _ _ _ ?_)
  refine wpAny_newFunctionEnv_cells S.kind knd fun env henv s1 ic => ?_
  subst henv
  refine ⟨nol.keeps ic.toInCall.keep, codeAny_func ?_⟩
  obtain ⟨t, ht0, hq⟩ := hb cdv A outer s H vs Q E hgd (hr.deeper _) hsp
  have ht := ht0.nox
  have J0 : Inv (cxOf CX0 P w K mg base N qual (defScope st) f cdv A outer s H E) [] (start N vs) H s1 := inv_start S hr.hd env0 hlv rel ic
  refine wpAny_mono (ht.run [] s1 (start N vs) H _ J0 hq) (fun fl s' hs => ?_) fun _ _ z => z
  have done : ∀ {σ' : St} {H' : Hp} {v : V} {u : Value}, Inv (cxOf CX0 P w K mg base N qual (defScope st) f cdv A outer s H E) [] σ' H' s' → RelV v u → Q v H' → CE outer P w H s Q u s' :=
    fun {σ' H' v u} J r q => ⟨v, H', J.os, J.bare, J.base, J.hok, r, q⟩
  cases fl with
  | ret u => obtain ⟨v, σ', H', J, r, q⟩ := hs; exact done J r q
  | next => obtain ⟨σ', H', J, q⟩ := hs; exact done (v := V.non) (u := Value.none) J rfl q
  | brk => obtain ⟨_, _, _, q⟩ := hs; exact False.elim q
  | cont => obtain ⟨_, _, _, q⟩ := hs; exact False.elim q
end
section
variable {X : Cx} {CX : CXT} {k : Nat} {f : Addr} {fd : FuncData} {ps : List Str} {sp : Sp} {E : XK} {x : Str} {a1 : Expr} {ar : List Expr} {ta : TA} {q1 qc : Pos}
theorem run_fnG {pins : List (Addr × Obj)} {σ : St} {H : Hp} {s : Shared} {Q : VK} {us : List Value} {vs : List V} (hgd : X.A.guards = some []) (F : FnG X.prog X.w X.K X.mg X.base CX k f fd ps sp) (hr : Room k X.A) (hb : Binds X.K fd ps []) (hx : Passes CX X E)
    (I : Inv X pins σ H s) (r : Vals vs us) (h : sp vs H Q E) : wpAny (model X.prog X.w) X.A (call (.ref f) us) (EP X pins σ Q) X.xe s := by
  have hl : (us ++ []).length = ps.length := by
    rw [List.append_nil, ← r.length]
    exact F.len _ _ _ _ h
  have bb := hb s us I.kIn hl
  rw [List.append_nil] at bb
  refine wpAny_call (codeAny_mono (F.run X.A X.stack s H ⟨us, []⟩ us vs Q E hgd hr I.env0 bb r h) fun rs s' hq => ?_)
  cases rs with
  | error er => exact hx pins σ H s er s' I hq
  | ok fl =>
    cases fl with
    | ret u => exact I.after hq
    | next => exact False.elim hq
    | brk => exact False.elim hq
    | cont => exact False.elim hq
theorem pe_callG (hgd : X.A.guards = some []) (F : FnG X.prog X.w X.K X.mg X.base CX k f fd ps sp) (hr : Room k X.A) (hg : Gl X x) (hm : X.mg x = some (.ref f)) (hk : PySem.W.keepIn X.K (.ref f) = true) (hb : Binds X.K fd ps []) (hx : Passes CX X E) (ha : PA X (a1 :: ar) ta)
    (hdb : (x == ("__debug__" : Str)) = false := by decide) (hst : starEach (a1 :: ar) X.env = (false, eval a1 X.env) :: starEach ar X.env := by rfl) (hps : (backTo qc (starEach ar X.env)).any (·.1) = false := by rfl) :
    PE X (.Call (.Name x q1) (a1 :: ar) [] qc) (tCall sp [] E ta) := by
  refine ⟨fun pins s σ H Q I h => ?_⟩
  refine wpAny_Call_Name_kw (ld_glob I hg hm ?_ hdb)
  refine PySem.W.callWith_K (h₀ := X.base) I.ok.mod.kin hk (thn (ha.run qc pins s σ H _ I h) fun us s1 hh => ?_) hst hps
  obtain ⟨vs, H1, I1, r, q⟩ := hh
  rw [List.append_nil] at q
  exact ⟨I1.kIn, run_fnG hgd F hr hb hx I1 r q⟩
/-- repr of a thing made of flat things, lists, tuples -/
def rRepr (K : PySem.W.Frag) : List V → Hp → VK → Prop := fun xs H Q => ∃ (a : Addr) (d : PyData), xs = [.ref a] ∧ Dp K H (.ref a) d ∧ d.showable = true ∧ d.hasDict = false ∧ d.depth ≤ 60 ∧ d.shown.length ≤ sizeLine ∧ Q (.str d.shown) H
theorem call_reprD {n : Nat} (hgd : X.A.guards = some []) (hr : Room n X.A) : CallR X (.builtin "repr") (rRepr X.K) := by
  intro pins s σ H xs us Q I r h
  obtain ⟨a, d, rfl, hd, hs, hnd, hdp, hz, q⟩ := h
  cases r with
  | cons ra rr =>
    cases rr
    rename_i u
    cases (show u = Value.ref a from ra)
    obtain ⟨as, rd⟩ := Dp.reads I d _ _ hd rfl
    have hun := hr.un
    refine repr_of_reads' rd hs (fun z => by rw [hnd] at z; cases z) hgd (by omega) (fun _ _ z => z) (fun h' u tk hk => ?_) hz
    exact ⟨.str d.shown, H, I.kept (t' := tk) hk, ⟨_, rfl⟩, q⟩
end
end L2
namespace L2
open PySem PySem.Spec PyProof.Rows
theorem caller_guards : callerA.guards = some [] := rfl
/-- the law's call, as law_call, the promise over A with nothing shown -/
theorem law_callG {P : Program} {w : World} {K : PySem.W.Frag} {mg mb : Str → Option Value} {CX : CXT} {k : Nat} {fa a : Addr} {fd : FuncData} {x : Str} {sp : Sp} {z1 : Shared} {vs : List Value} {ns : List Int}
    (kin : K.In z1.heap) (hns : z1.heap.Ns mainGlobals mg) (hbn : z1.heap.Ns builtinsNs mb) (hbb : ∀ y : Str, y ≠ "__name__" → mb y = bootBuiltins y) (hlim : z1.heap.NoLimit) (hgen : z1.gens = #[])
    (hscr : z1.heap.get? a = some { cls := .type "list", data := .seq vs.toArray }) (hi : IntsAre vs ns) (hl : ns.length ≤ sizeLine) (hr : Room k callerA)
    (F : ∀ base : Heap, K.In base → base.Ns mainGlobals mg → FnG P w K mg base CX k fa fd [x] sp) (hbind : ∀ (s : Shared) (u : Value), BindsTo s fd ⟨[u], []⟩ [(x, u)])
    (hsp : ∀ H : Hp, Only H → SqL K H a (ns.map V.int) → sp [.ref a] H (fun v _ => v = .bl true) fun _ _ _ => False) (hCX : ∀ H e s', CX [] H z1 (fun _ _ _ => False) e s' → False) :
    codeAny (model P w) callerA (.call (.ref fa) ⟨[.ref a], []⟩) (fun r s' => r = .ok (.ret (.bool true)) ∧ OldK z1.heap s'.heap ∧ s'.os = z1.os ∧ AllBare s'.gens) z1 := by
  have rel := vals_ints hi
  have lenV := hi.length
  have core : ∀ H : Hp, Only H → SqL K H a (ns.map V.int) → HOk P w H z1.heap → (∀ b, H b ≠ none → b = a) → (H a ≠ none → K.lookup a = none) →
      codeAny (model P w) callerA (.call (.ref fa) ⟨[.ref a], []⟩) (fun r s' => r = .ok (.ret (.bool true)) ∧ OldK z1.heap s'.heap ∧ s'.os = z1.os ∧ AllBare s'.gens) z1 := by
    intro H hO hS hok hA hK
    have below : ∀ {b : Addr} {o : Obj}, z1.heap.get? b = some o → H b = none → (hidT z1.heap H).get? b = some o := fun q n => hidT_get q n
    have noDict : ∀ {b : Addr} {o : Obj} {es : Array DictEntry} {ep : Nat}, z1.heap.get? b = some o → o.data = .dict es ep → H b = none := by
      intro b o es ep q d
      cases hq : H b with
      | none => rfl
      | some u =>
        obtain rfl : b = a := hA b (by rw [hq]; simp)
        rw [hscr] at q
        cases q
        cases (show Data.seq vs.toArray _ = Data.dict es ep from d)
    have nsUp : ∀ {b : Addr} {m : Str → Option Value}, z1.heap.Ns b m → (hidT z1.heap H).Ns b m := by
      rintro b m ⟨o, es, ep, q, d, r⟩
      exact ⟨o, es, ep, below q (noDict q d), d, r⟩
    have kinB : K.In (hidT z1.heap H) := by
      intro b o q
      refine below (kin b o q) ?_
      cases hq : H b with
      | none => rfl
      | some u =>
        obtain rfl : b = a := hA b (by rw [hq]; simp)
        rw [hK (by rw [hq]; simp)] at q
        cases q
    have md : Mod K mg (hidT z1.heap H) := ⟨kinB, nsUp hns, ⟨mb, nsUp hbn, hbb⟩, let ⟨mc, h1, h2⟩ := hlim; ⟨mc, nsUp h1, h2⟩⟩
    have en0 : Env0 P w K mg (hidT z1.heap H) callerA [] z1 H := ⟨rfl, md, fun b o q => of_hidT q, Nat.le_of_eq (hidT_size _ _), trivial, fun b hb => absurd (show b ∈ ([] : List Addr) from hb) (by simp), hok, .of_eq hgen⟩
    refine codeAny_mono ((F _ kinB (nsUp hns)).run callerA [] z1 H ⟨[.ref a], []⟩ [.ref a] [.ref a] _ _ caller_guards hr en0 (hbind z1 (.ref a)) (.cons rfl .nil) (hsp H hO hS)) fun r s' h => ?_
    cases r with
    | error er => exact (hCX H er s' h).elim
    | ok fl =>
      cases fl with
      | next => exact False.elim h
      | brk => exact False.elim h
      | cont => exact False.elim h
      | ret u =>
        obtain ⟨v, H', hos, bare, un, hok', r', hv⟩ := h
        obtain rfl : v = .bl true := hv
        obtain rfl : u = Value.bool true := r'
        refine ⟨rfl, OldK.of_keep fun b o q => ?_, hos, bare⟩
        cases hq : H b with
        | none => exact un.keep b o q hq (fun z => absurd (show b ∈ ([] : List Addr) from z) (by simp)) (by simp)
        | some u =>
          rcases hO b with z | ⟨ob, xs, z⟩
          · rw [hq] at z
            cases z
          · obtain ⟨e1, _⟩ := hok b _ z
            obtain ⟨e2, _⟩ := hok' b _ (un.frzs b ob _ z)
            rw [q] at e1
            cases e1
            exact e2
  cases hk : K.lookup a with
  | some o =>
    have q := kin a o hk
    rw [hscr] at q
    cases q
    exact core (fun _ => none) (fun _ => .inl rfl) (.inr ⟨_, vs.toArray, _, hk, rfl, rfl, rfl, by rw [List.size_toArray, lenV]; exact hl, by simpa using rel⟩) (fun b u z => nomatch (show (none : Option HO) = some u from z)) (fun b z => absurd rfl z) (fun z => absurd rfl z)
  | none =>
    have hH : ∀ b, (if b = a then some (HO.frz { cls := .type "list", data := .seq vs.toArray } (.lst (ns.map V.int))) else none) ≠ none → b = a := fun b z => by
      by_cases hb : b = a
      · exact hb
      · exact absurd (if_neg hb) z
    refine core (fun b => if b = a then some (.frz { cls := .type "list", data := .seq vs.toArray } (.lst (ns.map V.int))) else none) (fun b => ?_) (.inl (.inr ⟨{ cls := .type "list", data := .seq vs.toArray }, if_pos rfl⟩)) (fun b u z => ?_) hH (fun _ => hk)
    · by_cases hb : b = a
      · exact .inr ⟨_, _, if_pos hb⟩
      · exact .inl (if_neg hb)
    · by_cases hb : b = a
      · cases (if_pos hb).symm.trans z
        subst hb
        exact ⟨hscr, by rw [List.length_map]; exact hl, vs, _, rel, hscr⟩
      · cases (if_neg hb).symm.trans z
theorem walk_ofG {l : PySem.W.OpenLaw} {n k : Nat} {q : Program} {loose : List Str} {XP : (Str → Option Value) → Heap → Prop} {YP : World → Heap → Prop} {d : DefRec} {K : Params → PySem.W.Frag} {CX : CXT} {sp : PySem.W.Frag → Sp} {x : Str}
    (hn : l.most = some n) (hn2 : n ≤ sizeLine) (hdf : d.params.defaults = []) (hr : Room k callerA) (hY : ∀ (w : World) (h : Heap), YP w h → (K w.params).In h)
    (F : ∀ (w : World) (mg : Str → Option Value) (fa : Addr) (h : Heap), (K w.params).In h → h.Ns mainGlobals mg → mg d.name = some (.ref fa) → ∃ fd : FuncData, (∀ (s : Shared) (u : Value), BindsTo s fd ⟨[u], []⟩ [(x, u)]) ∧
        ∀ base : Heap, (K w.params).In base → base.Ns mainGlobals mg → FnG l.prog w (K w.params) mg base CX k fa fd [x] (sp (K w.params)))
    (hsp : ∀ (K : PySem.W.Frag) (H : Hp) (a : Addr) (ns : List Int), ns.length ≤ n → Only H → SqL K H a (ns.map V.int) → sp K [.ref a] H (fun v _ => v = .bl true) fun _ _ _ => False) (hCX : ∀ (H : Hp) (s : Shared) (e : Value) (s' : Shared), CX [] H s (fun _ _ _ => False) e s' → False) :
    PySem.W.WalkO q loose XP YP l.row.toRowW d [] (fun f vs => PySem.call f vs) := by
  refine Att.attach_call hn hdf fun w s0 z1 mg mb fa o pm cd doc a vs ns G Y ho hd hcd hmg hobj hints hlen hg => ?_
  obtain ⟨fd, hb, hF⟩ := F w mg fa _ (hY w _ Y) G.T.g hmg
  exact law_callG (hY w _ Y) G.T.g G.T.b G.T.builtins G.T.nolimit hg hobj hints (Nat.le_trans hlen hn2) hr hF hb (fun H hO hS => hsp (K w.params) H a ns hlen hO hS) fun H e s' => hCX H z1 e s'
end L2

/-! ### own objects whose class is found by the object -/
namespace L2
open PySem PySem.Spec PyProof.Rows
/-- the method m of the class at C keeps sp, by a def of level k -/
structure MOk (P : Program) (w : World) (K : PySem.W.Frag) (mg : Str → Option Value) (base : Heap) (CX : CXT) (k : Nat) (C : Addr) (m : Str) (sp : Sp) : Prop where
  cl : Cls K C
  ex : ∃ (f : Addr) (fd : FuncData) (ps : List Str), Meth K C m f ∧ FnOk P w K mg base CX k f fd ps sp ∧ Binds K fd ps []
section
variable {X : Cx} {CX : CXT} {k : Nat} {sp : Addr → Sp} {E : XK} {m : Str} {o a1 : Expr} {ar : List Expr} {te : TE} {ta : TA} {qa qc : Pos} {M : Addr → Prop}
/-- o.m(), o of one of the classes M -/
def tMP (M : Addr → Prop) (m : Str) (sp : Addr → Sp) (E : XK) (te : TE) (ta : TA) : TE := fun σ H Q => te σ H fun x H1 => ∃ a C dx fs, x = .ref a ∧ H1 a = some (.ins C dx fs) ∧ M C ∧ fs.lookup m = none ∧ ta σ H1 fun vs H2 => sp C (x :: vs) H2 Q E
theorem pe_methP0 {pl : Sem Bool} (he : PE X o te) (hM : ∀ C, M C → MOk X.prog X.w X.K X.mg X.base CX k C m (sp C)) (hr : Room k X.A) (hx : Passes CX X E)
    (hcal : eval (.Call (.Attribute o m qa) [] [] qc) X.env = (eval o X.env >>= fun ov => standAt qa.atName >>= fun _ => holding [ov] (getMethod ov m pl) >>= fun r => callWith qc r.1 r.2 (backTo qc (starEach [] X.env)) (backToKw qc (keywordEach [] X.env))) := by rfl) :
    PE X (.Call (.Attribute o m qa) [] [] qc) (tMP M m sp E te tNil) := by
  refine ⟨fun pins s σ H Q I h => ?_⟩
  refine PySem.W.methodCall_KW (pl := pl) (thn (he.run pins s σ H _ I h) fun u s1 hh => ?_) hcal
  obtain ⟨x, H1, I1, rx, a, C, dx, fs, rfl, ea, hC, l, q⟩ := hh
  obtain rfl : u = Value.ref a := rx
  obtain ⟨cl, f, fd, ps, hm, F, hb⟩ := hM C hC
  refine getmeth_ok I1 ea cl hm l ?_
  exact PySem.W.callWith_K0 (first := [.ref a]) I1.kIn hm.kp (run_fn (us := [.ref a]) (vs := [.ref a]) (dvs := []) F hr hb .nil hx I1 (.cons rfl .nil) q)
theorem pe_methP {pl : Sem Bool} (he : PE X o te) (hM : ∀ C, M C → MOk X.prog X.w X.K X.mg X.base CX k C m (sp C)) (hr : Room k X.A) (hx : Passes CX X E) (ha : PA X (a1 :: ar) ta)
    (hst : starEach (a1 :: ar) X.env = (false, eval a1 X.env) :: starEach ar X.env := by rfl) (hps : (backTo qc (starEach ar X.env)).any (·.1) = false := by rfl)
    (hcal : eval (.Call (.Attribute o m qa) (a1 :: ar) [] qc) X.env = (eval o X.env >>= fun ov => standAt qa.atName >>= fun _ => holding [ov] (getMethod ov m pl) >>= fun r => callWith qc r.1 r.2 (backTo qc (starEach (a1 :: ar) X.env)) (backToKw qc (keywordEach [] X.env))) := by rfl) :
    PE X (.Call (.Attribute o m qa) (a1 :: ar) [] qc) (tMP M m sp E te ta) := by
  refine ⟨fun pins s σ H Q I h => ?_⟩
  refine PySem.W.methodCall_KW (pl := pl) (thn (he.run pins s σ H _ I h) fun u s1 hh => ?_) hcal
  obtain ⟨x, H1, I1, rx, a, C, dx, fs, rfl, ea, hC, l, q⟩ := hh
  obtain rfl : u = Value.ref a := rx
  obtain ⟨cl, f, fd, ps, hm, F, hb⟩ := hM C hC
  refine getmeth_ok I1 ea cl hm l ?_
  refine PySem.W.callWith_K (first := [.ref a]) (h₀ := X.base) I.ok.mod.kin hm.kp (thn (ha.run qc pins s1 σ H1 _ I1 q) fun us s2 h2 => ?_) hst hps
  obtain ⟨vs, H2, I2, r, q2⟩ := h2
  exact ⟨I2.kIn, run_fn (us := .ref a :: us) (vs := .ref a :: vs) (dvs := []) F hr hb .nil hx I2 (.cons rfl r) (by rw [List.append_nil]; exact q2)⟩
theorem c_mp {σ : St} {H : Hp} {Q : VK} (h : te σ H fun x H1 => ∃ a C dx fs, x = .ref a ∧ H1 a = some (.ins C dx fs) ∧ M C ∧ fs.lookup m = none ∧ ta σ H1 fun vs H2 => sp C (x :: vs) H2 Q E) : tMP M m sp E te ta σ H Q := h
def tNeverE : TE := fun _ _ _ => False
theorem pe_never {e : Expr} : PE X e tNeverE := ⟨fun _ _ _ _ _ _ h => h.elim⟩
end
end L2
namespace L2
open PySem PySem.Spec PyProof.Rows
section
variable {X : Cx}
theorem dpAll_int {K : PySem.W.Frag} {H : Hp} : ∀ ns : List Int, DpAll K H (ns.map V.int) (ns.map PyData.int)
  | [] => .nil
  | n :: ns => .cons (.int n) (dpAll_int ns)
/-- the greatest of these, and of the last one -/
def maxL : List Int → Int
  | [] => 0
  | y :: ys => PySem.W.maxOf y ys
/-- max(l, default=z), l of whole numbers -/
theorem call_maxD {n : Nat} (hr : Room n X.A) : CallRK X (.builtin "max") ["default"] (fun xs zs H Q => ∃ (a : Addr) (ns : List Int) (z : V), xs = [.ref a] ∧ zs = [z] ∧ SqL X.K H a (ns.map V.int) ∧ (ns = [] → Q z H) ∧ ∀ y ys, ns = y :: ys → Q (.int (PySem.W.maxOf y ys)) H) := by
  intro pins s σ H xs zs us ws Q I r rz h
  obtain ⟨a, ns, z, rfl, rfl, hS, h0, h1⟩ := h
  cases r with
  | cons ra rr =>
    cases rr
    rename_i u
    cases (show u = Value.ref a from ra)
    cases rz with
    | cons rz1 rzz =>
      cases rzz
      rename_i zu
      obtain ⟨its, rv, hp, hlen⟩ := I.list hS
      obtain ⟨as, rds⟩ := Dp.readsAll I _ _ its (dpAll_int ns) rv
      have hun := hr.un
      have hD : PySem.W.HoldAll s.heap its.toArray.toList ns := ⟨as, rds⟩
      refine PySem.W.max_list_datum_default (α := Int) hr.hd hp.isList hD (by show X.A.units + 1 + 0 < cLine; omega) (fun e h' tk hk => ?_) (fun y ys i v h' tk e hi hv hk => ?_)
      · exact ⟨z, H, I.kept (t' := tk) hk, rz1, h0 e⟩
      · obtain ⟨bs, rd⟩ := hv
        have hv2 : ∃ t, v = Value.int (PySem.W.maxOf y ys) t := by
          have rd' : Reads h' v (.int (PySem.W.maxOf y ys)) bs := rd
          cases rd' with
          | int i t => exact ⟨t, rfl⟩
        exact ⟨.int (PySem.W.maxOf y ys), H, I.kept (t' := tk) hk, hv2, h1 y ys e⟩
end
end L2
namespace L2
open PySem PySem.Spec PyProof.Rows
/-- a plain class with these fields, that can be made -/
def tcB (K : PySem.W.Frag) (C : Addr) (fs : List Str) : Bool :=
  ((PySem.W.plainGet K C Str.empty && PySem.W.hasDictIn K C) && (PySem.W.plainOver K C && (PySem.W.makesIn K C && PySem.W.keepIn K (.ref C)))) &&
  ((decide (PySem.W.findIn K (.ref C) "__setattr__" = some (some (.builtin "object.__setattr__"))) && decide (PySem.W.findIn K (.ref C) "__class__" = some (some (.builtin "object.__class__")))) &&
  ((decide (PySem.W.specialIn K (.builtin "object.__class__") "__get__" = some (some (.builtin "getset_descriptor.__get__"))) && decide (PySem.W.takesIn K (.builtin "object.__class__") = some true)) &&
  (decide (PySem.W.mroIn K C (.type "object") = some true) && fs.all fun f => decide (PySem.W.findIn K (.ref C) f = some none))))
structure TcC (K : PySem.W.Frag) (C : Addr) (fs : List Str) : Prop where
  cl : Cls K C
  makes : PySem.W.makesIn K C = true
  kp : PySem.W.keepIn K (.ref C) = true
  ty : ∀ {H : Hp} {a dx : Addr} {gs : List (Str × V)}, H a = some (.ins C dx gs) → TyX K H (.ref a) (.ref C)
  no : ∀ f ∈ fs, NoAttr K C f
theorem tcB_ok {K : PySem.W.Frag} {C : Addr} {fs : List Str} (h : tcB K C fs = true) : TcC K C fs := by
  unfold tcB at h
  simp only [Bool.and_eq_true, decide_eq_true_eq, List.all_eq_true] at h
  obtain ⟨⟨⟨h1, h2⟩, h3, h4, h5⟩, ⟨h6, h7⟩, ⟨h8, h9⟩, h10, h11⟩ := h
  have cl : Cls K C := ⟨h1, h2, h3, h6⟩
  exact ⟨cl, h4, h5, fun e => .base (.ins e cl h7 h8 h9 h10), h11⟩
section
variable {K : PySem.W.Frag} {σ : St} {H : Hp} {Q : VK} {D : Ends} {te tv : TE} {f : Str} {ta tk : TA} {C : Addr} {sp : Sp} {E : XK}
theorem c_fld (h : te σ H fun x H1 => ∃ a C dx fs v, x = .ref a ∧ H1 a = some (.ins C dx fs) ∧ Cls K C ∧ NoAttr K C f ∧ fs.lookup f = some v ∧ Q v H1) : tFld K te f σ H Q := h
theorem c_sfld (h : tv σ H fun y H1 => te σ H1 fun x H2 => ∃ a C dx fs, x = .ref a ∧ H2 a = some (.ins C dx fs) ∧ Cls K C ∧ NoAttr K C f ∧ fs.length < 1000 ∧ D.nx σ (upd H2 a (.ins C dx (putF f y fs)))) : sFld K te tv f D σ H := h
/-- C(..): what is asked, by one word -/
def MkP2 (C : Addr) (sp : Sp) (vs : List V) (H : Hp) (Q : VK) (E : XK) : Prop := ∀ x dx, H x = none → H dx = none → dx ≠ x → sp (.ref x :: vs) (upd (upd H dx (.own x)) x (.ins C dx [])) (fun v H2 => v = .non ∧ Q (.ref x) H2) E
theorem c_make (h : ta σ H fun vs H1 => MkP2 C sp vs H1 Q E) : tMake C sp [] E ta σ H Q := by
  show ta σ H fun vs H1 => ∀ x dx, H1 x = none → H1 dx = none → dx ≠ x → sp (.ref x :: (vs ++ [])) (upd (upd H1 dx (.own x)) x (.ins C dx [])) (fun v H2 => v = .non ∧ Q (.ref x) H2) E
  simp only [List.append_nil]
  exact h
theorem c_ckw {r : List V → List V → Hp → VK → Prop} (h : ta σ H fun vs H1 => tk σ H1 fun zs H2 => r vs zs H2 Q) : tCKw r ta tk σ H Q := h
end
end L2

/-! facts of classes, as truths -/
namespace L2
open PySem
def difB : List Addr → Bool
  | [] => true
  | a :: as => as.all (fun b => !decide (a = b)) && difB as
theorem difB_ne {a b : Addr} : ∀ {l : List Addr} {i j : Nat}, difB l = true → l[i]? = some a → l[j]? = some b → i < j → a ≠ b
  | [], i, j, _, h, _, _ => by simp at h
  | c :: l, i, j, h, hi, hj, hij => by
    rw [difB, Bool.and_eq_true, List.all_eq_true] at h
    cases j with
    | zero => omega
    | succ j =>
      rw [List.getElem?_cons_succ] at hj
      cases i with
      | zero =>
        have : c = a := by simpa using hi
        subst this
        have := h.1 b (List.mem_of_getElem? hj)
        intro e
        subst e
        simp at this
      | succ i =>
        rw [List.getElem?_cons_succ] at hi
        exact difB_ne h.2 hi hj (by omega)
/-- of class c, and with the plain == -/
def subB (K : PySem.W.Frag) (C c : Addr) : Bool := decide (PySem.W.kitOne K (.ref C) (.ref c) = some true) && (decide (PySem.W.mroIn K C (.type "object") = some true) && decide (PySem.W.findIn K (.ref C) "__eq__" = some (some (.builtin "object.__eq__"))))
end L2

/-! ### repr of nested things: the bounds; comprehensions that make things -/
namespace L2
open PySem PySem.Spec PyProof.Rows
open TL (tl)
/-- may be shown: nested at most D deep, its signs and things at most B -/
def RpOk (D B : Nat) (d : PyData) : Prop := d.showable = true ∧ d.hasDict = false ∧ d.leavesShort 13 = true ∧ d.depth ≤ D ∧ d.bulk ≤ B
def RpAll (D B : Nat) (ds : List PyData) : Prop := PyData.showableAll ds = true ∧ PyData.hasDictAll ds = false ∧ PyData.leavesShortAll 13 ds = true ∧ PyData.depthAll ds ≤ D ∧ PyData.bulkAll ds ≤ B
theorem RpOk.mono {D B D2 B2 : Nat} {d : PyData} (h : RpOk D B d) (hD : D ≤ D2) (hB : B ≤ B2) : RpOk D2 B2 d := ⟨h.1, h.2.1, h.2.2.1, Nat.le_trans h.2.2.2.1 hD, Nat.le_trans h.2.2.2.2 hB⟩
theorem rp_non : RpOk 0 0 .none := ⟨by simp only [PyData.showable], by simp only [PyData.hasDict], by simp only [PyData.leavesShort], by simp only [PyData.depth]; omega, by simp only [PyData.bulk]; omega⟩
theorem rp_bl (b : Bool) : RpOk 0 0 (.bool b) := ⟨by simp only [PyData.showable], by simp only [PyData.hasDict], by simp only [PyData.leavesShort], by simp only [PyData.depth]; omega, by simp only [PyData.bulk]; omega⟩
theorem rp_int {i : Int} (h : i.natAbs < 10 ^ 12) : RpOk 0 0 (.int i) := by
  refine ⟨?_, by simp only [PyData.hasDict], ?_, by simp only [PyData.depth]; omega, by simp only [PyData.bulk]; omega⟩
  · simp only [PyData.showable, decide_eq_true_eq]
    by_cases h0 : i.natAbs = 0
    · rw [h0]; decide
    · have h1 : i.natAbs.log2 < 40 := (Nat.log2_lt h0).mpr (Nat.lt_trans h (by decide))
      omega
  · simp only [PyData.leavesShort, decide_eq_true_eq]
    exact PyData.shown_int_le h
theorem rp_str {x : Str} (h : OkT x) : RpOk 0 x.length (.str x) := by
  refine ⟨by simp only [PyData.showable], by simp only [PyData.hasDict], ?_, by simp only [PyData.depth]; omega, by simp only [PyData.bulk]; exact Nat.le_refl _⟩
  simp only [PyData.leavesShort, List.all_eq_true, decide_eq_true_eq]
  exact fun c hc => Nat.lt_trans (h c hc) (by decide)
theorem rp_nil : RpAll 0 0 [] := ⟨by simp only [PyData.showableAll], by simp only [PyData.hasDictAll], by simp only [PyData.leavesShortAll], by simp only [PyData.depthAll]; omega, by simp only [PyData.bulkAll]; omega⟩
theorem rp_cons {D B D2 B2 : Nat} {d : PyData} {ds : List PyData} (h : RpOk D B d) (k : RpAll D2 B2 ds) : RpAll (max D D2) (B + 1 + B2) (d :: ds) := by
  obtain ⟨h1, h2, h3, h4, h5⟩ := h
  obtain ⟨k1, k2, k3, k4, k5⟩ := k
  refine ⟨by simp only [PyData.showableAll, h1, k1, Bool.and_self], by simp only [PyData.hasDictAll, h2, k2, Bool.or_self], by simp only [PyData.leavesShortAll, h3, k3, Bool.and_self], by simp only [PyData.depthAll]; omega, by simp only [PyData.bulkAll]; omega⟩
theorem rp_tup {D B : Nat} {ds : List PyData} (h : RpAll D B ds) : RpOk (D + 1) B (.tuple ds) := by
  obtain ⟨h1, h2, h3, h4, h5⟩ := h
  exact ⟨by simp only [PyData.showable, h1], by simp only [PyData.hasDict, h2], by simp only [PyData.leavesShort, h3], by simp only [PyData.depth]; omega, by simp only [PyData.bulk]; omega⟩
theorem rp_lst {D B : Nat} {ds : List PyData} (h : RpAll D B ds) : RpOk (D + 1) B (.list ds) := by
  obtain ⟨h1, h2, h3, h4, h5⟩ := h
  exact ⟨by simp only [PyData.showable, h1], by simp only [PyData.hasDict, h2], by simp only [PyData.leavesShort, h3], by simp only [PyData.depth]; omega, by simp only [PyData.bulk]; omega⟩
theorem rp_all {D B : Nat} : ∀ {ds : List PyData}, (∀ d ∈ ds, RpOk D B d) → RpAll D (ds.length * (B + 1)) ds
  | [], _ => ⟨by simp only [PyData.showableAll], by simp only [PyData.hasDictAll], by simp only [PyData.leavesShortAll], by simp only [PyData.depthAll]; omega, by simp only [PyData.bulkAll]; omega⟩
  | d :: ds, h => by
    obtain ⟨h1, h2, h3, h4, h5⟩ := rp_cons (h d List.mem_cons_self) (rp_all (ds := ds) fun e he => h e (List.mem_cons_of_mem _ he))
    refine ⟨h1, h2, h3, by omega, ?_⟩
    rw [List.length_cons, Nat.succ_mul]
    omega
theorem c_repr {K : PySem.W.Frag} {H : Hp} {Q : VK} {a : Addr} {d : PyData} {D B : Nat} (h : Dp K H (.ref a) d) (r : RpOk D B d) (q : Q (.str d.shown) H) (hD : D ≤ 60 := by decide) (hB : B ≤ 2 ^ 20 := by decide) : rRepr K [.ref a] H Q :=
  ⟨a, d, rfl, h, r.1, r.2.1, Nat.le_trans r.2.2.2.1 hD, PyData.shown_fits_bulk (B := 13) (by decide) (by decide) r.2.2.1 (Nat.le_trans r.2.2.2.2 hB), q⟩
theorem BoxAt.up {H H2 : Hp} {b : Addr} (h : BoxAt H b) (e : Evl.Ex H H2) : BoxAt H2 b := let ⟨x, y, z, p, q⟩ := h; ⟨x, y, z, p, e _ _ q⟩
/-- all that is no list stays -/
def NL (H H2 : Hp) : Prop := ∀ a o, (∀ ys, o ≠ HO.lst ys) → H a = some o → H2 a = some o
theorem NL.of {H H2 : Hp} (e : Evl.Ex H H2) : NL H H2 := fun a o _ h => e a o h
theorem NL.trans {H H2 H3 : Hp} (e : NL H H2) (e2 : NL H2 H3) : NL H H3 := fun a o n h => e2 a o n (e a o n h)
theorem NL.upd {H : Hp} {f : Addr} {xs ys : List V} (h : H f = some (.lst xs)) : NL H (upd H f (.lst ys)) := fun a o n ha => by
  rw [upd_ne (ne_of ha h (n xs))]
  exact ha
theorem NL.box {H H2 : Hp} {b : Addr} (e : ExB b H H2) (h : BoxAt H b) : NL H H2 := fun a o n ha => by
  obtain ⟨x, y, z, _, q⟩ := h
  exact e a o (ne_of ha q (n _)) ha
section
variable {K : PySem.W.Frag} {σ : St} {H : Hp} {Q : VK} {g : TG} {tt : TT} {te : TE} {vs : List Nat}
theorem lcTN {a : Addr} {xs : List V} (P : Nat → V → Hp → Prop) (hst : ∀ i y G G2, NL G G2 → P i y G → P i y G2) (hs : SqT K H a xs) (hn : xs.length ≤ 1000)
    (ht : ∀ (i : Nat) (x : V), xs[i]? = some x → ∀ H2, Evl.Ex H H2 → ∀ (R : V → Hp → Prop) (N : Hp → Prop), (∀ y H3, Evl.Ex H2 H3 → P i y H3 → R y H3) →
      g x (wipe σ vs) H2 fun σ2 H3 => wipe σ2 vs = wipe σ vs ∧ tt σ2 H3 fun c H4 => if c = true then te σ2 H4 fun y H5 => R y H5 else N H4)
    (k : ∀ ys p H2, ys.length = xs.length → (∀ i y, ys[i]? = some y → P i y H2) → H p = none → Evl.Ex H H2 → H2 p = some (.lst ys) → Q (.ref p) H2) : LcI (Itt K a) g tt te vs σ H Q := by
  refine fun D hD => ?_
  have ex : ∀ {G : Hp} {o : HO}, Evl.Ex H G → Evl.Ex H (upd G D o) := fun e b u hb => by rw [upd_ne (ne_of_none hb hD)]; exact e b u hb
  refine lc_tup (xs := xs) (fun i H' => i ≤ xs.length ∧ Evl.Ex H H' ∧ ∃ ys, ys.length = i ∧ (∀ j y, ys[j]? = some y → P j y H') ∧ H' D = some (.lst ys))
    ⟨Nat.zero_le _, ex (Evl.Ex.refl _), [], rfl, (fun j y h => by simp at h), upd_same⟩ (fun i H' _ p => Evl.ex_t p.2.1 hs) (fun i x H' hi p => ?_) (fun H' p => ?_)
  · obtain ⟨_, e1, ys, hl, hy, hD'⟩ := p
    have hil := (List.getElem?_eq_some_iff.mp hi).1
    refine ht i x hi H' e1 (fun y H4 => ∃ acc, H4 D = some (.lst acc) ∧ acc.length < sizeLine ∧ (i + 1 ≤ xs.length ∧ Evl.Ex H (upd H4 D (.lst (acc ++ [y]))) ∧ ∃ zs, zs.length = i + 1 ∧ (∀ j y2, zs[j]? = some y2 → P j y2 (upd H4 D (.lst (acc ++ [y])))) ∧ upd H4 D (.lst (acc ++ [y])) D = some (.lst zs))) _ (fun y H3 e3 py => ?_)
    have hD3 := e3 _ _ hD'
    have eD : NL H3 (upd H3 D (.lst (ys ++ [y]))) := NL.upd hD3
    refine ⟨ys, hD3, Evl.sz_lt (by omega), hil, ex (e1.trans e3), ys ++ [y], by rw [List.length_append, hl]; rfl, fun j y2 hj => ?_, upd_same⟩
    rcases Nat.lt_or_ge j ys.length with h | h
    · rw [List.getElem?_append_left h] at hj
      exact hst _ _ _ _ eD (hst _ _ _ _ (NL.of e3) (hy j y2 hj))
    · rw [List.getElem?_append_right h] at hj
      have hj0 : j - ys.length = 0 := by
        have := (List.getElem?_eq_some_iff.mp hj).1
        rw [List.length_singleton] at this
        omega
      rw [hj0] at hj
      have hyy : y = y2 := by simpa using hj
      subst hyy
      have : j = i := by omega
      subst this
      exact hst _ _ _ _ eD py
  · obtain ⟨_, e1, ys, hl, hy, hD'⟩ := p
    exact k ys D H' hl hy hD e1 hD'
/-- the same over range(n), with draws -/
theorem lcRN {n : Nat} {b : Addr} (P : Nat → V → Hp → Prop) (hst : ∀ i y G G2, NL G G2 → P i y G → P i y G2) (hn : n ≤ 1000) (hB : BoxAt H b)
    (ht : ∀ (i : Nat), i < n → ∀ H2, BoxAt H2 b → ExB b H H2 → ∀ (R : V → Hp → Prop) (N : Hp → Prop), (∀ y H3, ExB b H2 H3 → BoxAt H3 b → P i y H3 → R y H3) →
      g (.int (i : Int)) (wipe σ vs) H2 fun σ2 H3 => wipe σ2 vs = wipe σ vs ∧ tt σ2 H3 fun c H4 => if c = true then te σ2 H4 fun y H5 => R y H5 else N H4)
    (k : ∀ ys p H2, ys.length = n → (∀ i y, ys[i]? = some y → P i y H2) → H p = none → ExB b H H2 → BoxAt H2 b → H2 p = some (.lst ys) → Q (.ref p) H2) : LcI (Itr 0 n) g tt te vs σ H Q := by
  refine fun D hD => ?_
  obtain ⟨ob, hob⟩ := hB.some
  have nDb : D ≠ b := (ne_of_none hob hD).symm
  have bx : ∀ {G : Hp} {o : HO}, BoxAt G b → BoxAt (upd G D o) b := fun ⟨x, y, z, p, q⟩ => ⟨x, y, z, p, by rw [upd_ne nDb.symm]; exact q⟩
  have ex : ∀ {G : Hp} {o : HO}, ExB b H G → ExB b H (upd G D o) := fun e a u na ha => by rw [upd_ne (ne_of_none ha hD)]; exact e a u na ha
  refine lc_range (lo := 0) (n := n) (fun i H' => i ≤ n ∧ ExB b H H' ∧ BoxAt H' b ∧ ∃ ys, ys.length = i ∧ (∀ j y, ys[j]? = some y → P j y H') ∧ H' D = some (.lst ys))
    ⟨Nat.zero_le _, ex (ExB.refl _ _), bx hB, [], rfl, (fun j y h => by simp at h), upd_same⟩ (fun i H' hi p => ?_) (fun H' p => ?_)
  · obtain ⟨_, e1, b1, ys, hl, hy, hD'⟩ := p
    have e0 : (0 : Int) + (i : Int) = (i : Int) := Int.zero_add _
    rw [e0]
    refine ht i hi H' b1 e1 (fun y H4 => ∃ acc, H4 D = some (.lst acc) ∧ acc.length < sizeLine ∧ (i + 1 ≤ n ∧ ExB b H (upd H4 D (.lst (acc ++ [y]))) ∧ BoxAt (upd H4 D (.lst (acc ++ [y]))) b ∧ ∃ zs, zs.length = i + 1 ∧ (∀ j y2, zs[j]? = some y2 → P j y2 (upd H4 D (.lst (acc ++ [y])))) ∧ upd H4 D (.lst (acc ++ [y])) D = some (.lst zs))) _ (fun y H3 e3 b3 py => ?_)
    have hD3 := e3 _ _ nDb hD'
    have eD : NL H3 (upd H3 D (.lst (ys ++ [y]))) := NL.upd hD3
    refine ⟨ys, hD3, Evl.sz_lt (by omega), hi, ex (e1.trans e3), bx b3, ys ++ [y], by rw [List.length_append, hl]; rfl, fun j y2 hj => ?_, upd_same⟩
    rcases Nat.lt_or_ge j ys.length with h | h
    · rw [List.getElem?_append_left h] at hj
      exact hst _ _ _ _ eD (hst _ _ _ _ (NL.box e3 b1) (hy j y2 hj))
    · rw [List.getElem?_append_right h] at hj
      have hj0 : j - ys.length = 0 := by
        have := (List.getElem?_eq_some_iff.mp hj).1
        rw [List.length_singleton] at this
        omega
      rw [hj0] at hj
      have hyy : y = y2 := by simpa using hj
      subst hyy
      have : j = i := by omega
      subst this
      exact hst _ _ _ _ eD py
  · obtain ⟨_, e1, b1, ys, hl, hy, hD'⟩ := p
    exact k ys D H' hl hy hD e1 b1 hD'
theorem c_noneIn {p : Addr} {xs : List V} (h : SqL K H p xs) (hn : ∀ z ∈ xs, NoneOr K H z) (hr : ∀ z ∈ xs, z ≠ .non) (q : Q (.bl false) H) : rNoneIn K false .non (.ref p) H Q := by
  refine ⟨p, xs, rfl, rfl, h, hn, ?_⟩
  have e : xs.any isNon = false := by
    rw [List.any_eq_false]
    intro z hz he
    cases z with
    | non => exact hr _ hz rfl
    | _ => cases he
  show Q (.bl (xs.any isNon)) H
  rw [e]
  exact q
end
end L2

open L2 in
local macro_rules | `(tactic| walk_at "s") => `(tactic| with_reducible (first
  | refine c_var (by with_unfolding_all rfl) ?_ | refine c_c ?_ | refine c_op ?_ | refine c_test ?_ | refine c_cons ?_ | refine c_nil ?_ | refine c_call ?_ | refine c_cb ?_ | refine c_seq ?_ | refine c_asg ?_ | refine c_gName ?_ | refine c_ret ?_ | refine c_ifS ?_
  | refine c_nx ?_ | refine c_rt ?_ | refine c_bk ?_ | refine c_ct ?_ | refine c_next ?_ | refine c_drop ?_ | refine c_un ?_ | refine c_b ?_ | refine c_and ?_ | refine c_or ?_ | refine c_not ?_ | refine c_andV ?_ | refine c_orV ?_ | refine c_notV ?_ | refine c_if ?_
  | refine c_tup ?_ | refine c_lst ?_ | refine c_sl ?_ | refine c_noPart ?_ | refine c_part ?_ | refine c_bm ?_ | refine c_bm0 ?_ | refine c_m0 ?_ | refine c_m1 ?_ | refine c_chain ?_ | refine c_retN ?_ | refine c_gCons ?_ | refine c_gNil ?_ | refine c_gSub ?_
  | refine c_I0 ?_ | refine c_U ?_ | refine c_eq (by with_unfolding_all rfl) ?_ | refine c_ne (by with_unfolding_all rfl) ?_ | refine c_yes ?_ | refine c_forS ?_ | refine c_lcSi ?_ | refine c_forR1 ?_ | refine c_forR2 ?_ | refine c_forL ?_ | refine c_forT ?_ | refine c_lcR1 ?_ | refine c_lcLi ?_ | refine c_lcTi ?_ | refine c_forE ?_ | refine c_lcZi ?_ | refine c_xfv ?_ | refine c_mkv ?_ | refine c_mp ?_ | refine c_fld ?_ | refine c_sfld ?_ | refine c_make ?_ | refine c_ckw ?_ | refine c_break ?_ | refine c_cont ?_ | refine c_orT ?_ | refine c_andT ?_ | refine c_notT ?_ | refine iteT ?_ | refine iteF ?_ | refine if_nt ?_ | refine if_nf ?_
  | refine ⟨_, rfl, ?_⟩ | refine ⟨_, _, rfl, rfl, ?_⟩ | refine And.intro rfl ?_))
local macro_rules | `(tactic| walk_at "ss") => `(tactic| repeat (walk_at "s"))

namespace Toy
open PySem L2
open Evl hiding RetV RetL
def top (i : Nat) : Stmt := PySem.Challenge.pw_beatrows_k22_terms_told.main.body.getD i (.Pass ⟨0, 0, 0, 0⟩)
abbrev s_is_whole : Stmt := top 12
abbrev s_is_within : Stmt := top 13
abbrev s_is_name : Stmt := top 14
abbrev s_is_pointed : Stmt := top 15
abbrev s_is_value : Stmt := top 16
abbrev s_ops_told : Stmt := top 19
abbrev s_Term_parts : Stmt := (cBody (top 22)).getD 0 (.Pass ⟨0, 0, 0, 0⟩)
abbrev s_Term_names : Stmt := (cBody (top 22)).getD 1 (.Pass ⟨0, 0, 0, 0⟩)
abbrev s_Term_levels : Stmt := (cBody (top 22)).getD 2 (.Pass ⟨0, 0, 0, 0⟩)
abbrev s_need_term : Stmt := top 23
abbrev s_Name_init : Stmt := (cBody (top 24)).getD 0 (.Pass ⟨0, 0, 0, 0⟩)
abbrev s_Name_names : Stmt := (cBody (top 24)).getD 1 (.Pass ⟨0, 0, 0, 0⟩)
abbrev s_Name_told : Stmt := (cBody (top 24)).getD 4 (.Pass ⟨0, 0, 0, 0⟩)
abbrev s_Value_init : Stmt := (cBody (top 25)).getD 0 (.Pass ⟨0, 0, 0, 0⟩)
abbrev s_Value_told : Stmt := (cBody (top 25)).getD 2 (.Pass ⟨0, 0, 0, 0⟩)
abbrev s_Two_init : Stmt := (cBody (top 26)).getD 0 (.Pass ⟨0, 0, 0, 0⟩)
abbrev s_Two_parts : Stmt := (cBody (top 26)).getD 1 (.Pass ⟨0, 0, 0, 0⟩)
abbrev s_Two_told : Stmt := (cBody (top 26)).getD 4 (.Pass ⟨0, 0, 0, 0⟩)
abbrev s_Not_init : Stmt := (cBody (top 27)).getD 0 (.Pass ⟨0, 0, 0, 0⟩)
abbrev s_Not_parts : Stmt := (cBody (top 27)).getD 1 (.Pass ⟨0, 0, 0, 0⟩)
abbrev s_Not_told : Stmt := (cBody (top 27)).getD 4 (.Pass ⟨0, 0, 0, 0⟩)
abbrev s_Pick_init : Stmt := (cBody (top 28)).getD 0 (.Pass ⟨0, 0, 0, 0⟩)
abbrev s_Pick_parts : Stmt := (cBody (top 28)).getD 1 (.Pass ⟨0, 0, 0, 0⟩)
abbrev s_Pick_told : Stmt := (cBody (top 28)).getD 4 (.Pass ⟨0, 0, 0, 0⟩)
abbrev s_simple_of : Stmt := top 29
abbrev s_made_of_told : Stmt := top 30
abbrev s_term_of : Stmt := top 31
abbrev s_cell_at_l : Stmt := top 33
abbrev s_box_l : Stmt := top 34
abbrev s_take_l : Stmt := top 35
abbrev s_value_l : Stmt := top 36
abbrev s_told_l : Stmt := top 37
abbrev s_made_l : Stmt := top 38
abbrev s_names_l : Stmt := top 39
abbrev s_levels_l : Stmt := top 40
abbrev s_right_l : Stmt := top 41
abbrev s_law : Stmt := top 42
/-- where the defs stand -/
structure Adr where
  f_is_whole : Addr
  fd_is_whole : FuncData
  f_is_within : Addr
  fd_is_within : FuncData
  f_is_name : Addr
  fd_is_name : FuncData
  f_is_pointed : Addr
  fd_is_pointed : FuncData
  f_is_value : Addr
  fd_is_value : FuncData
  f_ops_told : Addr
  fd_ops_told : FuncData
  f_Term_parts : Addr
  fd_Term_parts : FuncData
  f_Term_names : Addr
  fd_Term_names : FuncData
  f_Term_levels : Addr
  fd_Term_levels : FuncData
  f_need_term : Addr
  fd_need_term : FuncData
  f_Name_init : Addr
  fd_Name_init : FuncData
  f_Name_names : Addr
  fd_Name_names : FuncData
  f_Name_told : Addr
  fd_Name_told : FuncData
  f_Value_init : Addr
  fd_Value_init : FuncData
  f_Value_told : Addr
  fd_Value_told : FuncData
  f_Two_init : Addr
  fd_Two_init : FuncData
  f_Two_parts : Addr
  fd_Two_parts : FuncData
  f_Two_told : Addr
  fd_Two_told : FuncData
  f_Not_init : Addr
  fd_Not_init : FuncData
  f_Not_parts : Addr
  fd_Not_parts : FuncData
  f_Not_told : Addr
  fd_Not_told : FuncData
  f_Pick_init : Addr
  fd_Pick_init : FuncData
  f_Pick_parts : Addr
  fd_Pick_parts : FuncData
  f_Pick_told : Addr
  fd_Pick_told : FuncData
  f_simple_of : Addr
  fd_simple_of : FuncData
  f_made_of_told : Addr
  fd_made_of_told : FuncData
  f_term_of : Addr
  fd_term_of : FuncData
  f_cell_at_l : Addr
  fd_cell_at_l : FuncData
  f_box_l : Addr
  fd_box_l : FuncData
  f_take_l : Addr
  fd_take_l : FuncData
  f_value_l : Addr
  fd_value_l : FuncData
  f_told_l : Addr
  fd_told_l : FuncData
  f_made_l : Addr
  fd_made_l : FuncData
  f_names_l : Addr
  fd_names_l : FuncData
  f_levels_l : Addr
  fd_levels_l : FuncData
  f_right_l : Addr
  fd_right_l : FuncData
  f_law : Addr
  fd_law : FuncData
  a_OPS : Addr
  a_OWN : Addr
  c_Term : Addr
  c_Name : Addr
  c_Value : Addr
  c_Two : Addr
  c_Not : Addr
  c_Pick : Addr
structure Txt (K : PySem.W.Frag) (mg : Str → Option Value) (Z : Adr) : Prop where
  F_is_whole : Fun K "is_whole" "is_whole" s_is_whole Z.f_is_whole Z.fd_is_whole
  b_is_whole : Binds K Z.fd_is_whole ["thing"] []
  g_is_whole : mg "is_whole" = some (.ref Z.f_is_whole)
  F_is_within : Fun K "is_within" "is_within" s_is_within Z.f_is_within Z.fd_is_within
  b_is_within : Binds K Z.fd_is_within ["thing", "low", "high"] []
  g_is_within : mg "is_within" = some (.ref Z.f_is_within)
  F_is_name : Fun K "is_name" "is_name" s_is_name Z.f_is_name Z.fd_is_name
  b_is_name : Binds K Z.fd_is_name ["thing"] []
  g_is_name : mg "is_name" = some (.ref Z.f_is_name)
  F_is_pointed : Fun K "is_pointed" "is_pointed" s_is_pointed Z.f_is_pointed Z.fd_is_pointed
  b_is_pointed : Binds K Z.fd_is_pointed ["thing"] []
  g_is_pointed : mg "is_pointed" = some (.ref Z.f_is_pointed)
  F_is_value : Fun K "is_value" "is_value" s_is_value Z.f_is_value Z.fd_is_value
  b_is_value : Binds K Z.fd_is_value ["thing"] []
  g_is_value : mg "is_value" = some (.ref Z.f_is_value)
  F_ops_told : Fun K "ops_told" "ops_told" s_ops_told Z.f_ops_told Z.fd_ops_told
  b_ops_told : Binds K Z.fd_ops_told [] []
  g_ops_told : mg "ops_told" = some (.ref Z.f_ops_told)
  F_Term_parts : Fun K "parts" "Term.parts" s_Term_parts Z.f_Term_parts Z.fd_Term_parts
  b_Term_parts : Binds K Z.fd_Term_parts ["self"] []
  y_Term_parts : PySem.W.isFn K (.ref Z.f_Term_parts) = true
  F_Term_names : Fun K "names" "Term.names" s_Term_names Z.f_Term_names Z.fd_Term_names
  b_Term_names : Binds K Z.fd_Term_names ["self"] []
  y_Term_names : PySem.W.isFn K (.ref Z.f_Term_names) = true
  F_Term_levels : Fun K "levels" "Term.levels" s_Term_levels Z.f_Term_levels Z.fd_Term_levels
  b_Term_levels : Binds K Z.fd_Term_levels ["self"] []
  y_Term_levels : PySem.W.isFn K (.ref Z.f_Term_levels) = true
  F_need_term : Fun K "need_term" "need_term" s_need_term Z.f_need_term Z.fd_need_term
  b_need_term : Binds K Z.fd_need_term ["thing"] []
  g_need_term : mg "need_term" = some (.ref Z.f_need_term)
  F_Name_init : Fun K "__init__" "Name.__init__" s_Name_init Z.f_Name_init Z.fd_Name_init
  b_Name_init : Binds K Z.fd_Name_init ["self", "name"] []
  y_Name_init : PySem.W.isFn K (.ref Z.f_Name_init) = true
  F_Name_names : Fun K "names" "Name.names" s_Name_names Z.f_Name_names Z.fd_Name_names
  b_Name_names : Binds K Z.fd_Name_names ["self"] []
  y_Name_names : PySem.W.isFn K (.ref Z.f_Name_names) = true
  F_Name_told : Fun K "told" "Name.told" s_Name_told Z.f_Name_told Z.fd_Name_told
  b_Name_told : Binds K Z.fd_Name_told ["self"] []
  y_Name_told : PySem.W.isFn K (.ref Z.f_Name_told) = true
  F_Value_init : Fun K "__init__" "Value.__init__" s_Value_init Z.f_Value_init Z.fd_Value_init
  b_Value_init : Binds K Z.fd_Value_init ["self", "value"] []
  y_Value_init : PySem.W.isFn K (.ref Z.f_Value_init) = true
  F_Value_told : Fun K "told" "Value.told" s_Value_told Z.f_Value_told Z.fd_Value_told
  b_Value_told : Binds K Z.fd_Value_told ["self"] []
  y_Value_told : PySem.W.isFn K (.ref Z.f_Value_told) = true
  F_Two_init : Fun K "__init__" "Two.__init__" s_Two_init Z.f_Two_init Z.fd_Two_init
  b_Two_init : Binds K Z.fd_Two_init ["self", "op", "one", "other"] []
  y_Two_init : PySem.W.isFn K (.ref Z.f_Two_init) = true
  F_Two_parts : Fun K "parts" "Two.parts" s_Two_parts Z.f_Two_parts Z.fd_Two_parts
  b_Two_parts : Binds K Z.fd_Two_parts ["self"] []
  y_Two_parts : PySem.W.isFn K (.ref Z.f_Two_parts) = true
  F_Two_told : Fun K "told" "Two.told" s_Two_told Z.f_Two_told Z.fd_Two_told
  b_Two_told : Binds K Z.fd_Two_told ["self"] []
  y_Two_told : PySem.W.isFn K (.ref Z.f_Two_told) = true
  F_Not_init : Fun K "__init__" "Not.__init__" s_Not_init Z.f_Not_init Z.fd_Not_init
  b_Not_init : Binds K Z.fd_Not_init ["self", "one"] []
  y_Not_init : PySem.W.isFn K (.ref Z.f_Not_init) = true
  F_Not_parts : Fun K "parts" "Not.parts" s_Not_parts Z.f_Not_parts Z.fd_Not_parts
  b_Not_parts : Binds K Z.fd_Not_parts ["self"] []
  y_Not_parts : PySem.W.isFn K (.ref Z.f_Not_parts) = true
  F_Not_told : Fun K "told" "Not.told" s_Not_told Z.f_Not_told Z.fd_Not_told
  b_Not_told : Binds K Z.fd_Not_told ["self"] []
  y_Not_told : PySem.W.isFn K (.ref Z.f_Not_told) = true
  F_Pick_init : Fun K "__init__" "Pick.__init__" s_Pick_init Z.f_Pick_init Z.fd_Pick_init
  b_Pick_init : Binds K Z.fd_Pick_init ["self", "by", "one", "other"] []
  y_Pick_init : PySem.W.isFn K (.ref Z.f_Pick_init) = true
  F_Pick_parts : Fun K "parts" "Pick.parts" s_Pick_parts Z.f_Pick_parts Z.fd_Pick_parts
  b_Pick_parts : Binds K Z.fd_Pick_parts ["self"] []
  y_Pick_parts : PySem.W.isFn K (.ref Z.f_Pick_parts) = true
  F_Pick_told : Fun K "told" "Pick.told" s_Pick_told Z.f_Pick_told Z.fd_Pick_told
  b_Pick_told : Binds K Z.fd_Pick_told ["self"] []
  y_Pick_told : PySem.W.isFn K (.ref Z.f_Pick_told) = true
  F_simple_of : Fun K "simple_of" "simple_of" s_simple_of Z.f_simple_of Z.fd_simple_of
  b_simple_of : Binds K Z.fd_simple_of ["word", "thing"] []
  g_simple_of : mg "simple_of" = some (.ref Z.f_simple_of)
  F_made_of_told : Fun K "made_of_told" "made_of_told" s_made_of_told Z.f_made_of_told Z.fd_made_of_told
  b_made_of_told : Binds K Z.fd_made_of_told ["told", "left"] []
  g_made_of_told : mg "made_of_told" = some (.ref Z.f_made_of_told)
  F_term_of : Fun K "term_of" "term_of" s_term_of Z.f_term_of Z.fd_term_of
  b_term_of : Binds K Z.fd_term_of ["told"] []
  g_term_of : mg "term_of" = some (.ref Z.f_term_of)
  F_cell_at_l : Fun K "_law_cell_at" "_law_cell_at" s_cell_at_l Z.f_cell_at_l Z.fd_cell_at_l
  b_cell_at_l : Binds K Z.fd_cell_at_l ["_law_script", "_law_k"] []
  g_cell_at_l : mg "_law_cell_at" = some (.ref Z.f_cell_at_l)
  F_box_l : Fun K "_law_box" "_law_box" s_box_l Z.f_box_l Z.fd_box_l
  b_box_l : Binds K Z.fd_box_l ["_law_cell"] []
  g_box_l : mg "_law_box" = some (.ref Z.f_box_l)
  F_take_l : Fun K "_law_take" "_law_take" s_take_l Z.f_take_l Z.fd_take_l
  b_take_l : Binds K Z.fd_take_l ["_law_box_here", "_law_many"] []
  g_take_l : mg "_law_take" = some (.ref Z.f_take_l)
  F_value_l : Fun K "_law_value" "_law_value" s_value_l Z.f_value_l Z.fd_value_l
  b_value_l : Binds K Z.fd_value_l ["_law_box_here"] []
  g_value_l : mg "_law_value" = some (.ref Z.f_value_l)
  F_told_l : Fun K "_law_told" "_law_told" s_told_l Z.f_told_l Z.fd_told_l
  b_told_l : Binds K Z.fd_told_l ["_law_box_here", "_law_left", "_law_names_here"] []
  g_told_l : mg "_law_told" = some (.ref Z.f_told_l)
  F_made_l : Fun K "_law_made" "_law_made" s_made_l Z.f_made_l Z.fd_made_l
  b_made_l : Binds K Z.fd_made_l ["_law_told_here"] []
  g_made_l : mg "_law_made" = some (.ref Z.f_made_l)
  F_names_l : Fun K "_law_names" "_law_names" s_names_l Z.f_names_l Z.fd_names_l
  b_names_l : Binds K Z.fd_names_l ["_law_told_here"] []
  g_names_l : mg "_law_names" = some (.ref Z.f_names_l)
  F_levels_l : Fun K "_law_levels" "_law_levels" s_levels_l Z.f_levels_l Z.fd_levels_l
  b_levels_l : Binds K Z.fd_levels_l ["_law_told_here"] []
  g_levels_l : mg "_law_levels" = some (.ref Z.f_levels_l)
  F_right_l : Fun K "_law_right" "_law_right" s_right_l Z.f_right_l Z.fd_right_l
  b_right_l : Binds K Z.fd_right_l ["_law_term", "_law_told_here"] []
  g_right_l : mg "_law_right" = some (.ref Z.f_right_l)
  F_law : Fun K "law" "law" s_law Z.f_law Z.fd_law
  b_law : Binds K Z.fd_law ["_law_script"] []
  g_law : mg "law" = some (.ref Z.f_law)
  m_Term : mg "Term" = some (.ref Z.c_Term)
  m_Name : mg "Name" = some (.ref Z.c_Name)
  x_Name : tcB K Z.c_Name ["name"] = true
  i_Name : PySem.W.findIn K (.ref Z.c_Name) "__init__" = some (some (.ref Z.f_Name_init))
  h_parts_Name : PySem.W.findIn K (.ref Z.c_Name) "parts" = some (some (.ref Z.f_Term_parts))
  h_names_Name : PySem.W.findIn K (.ref Z.c_Name) "names" = some (some (.ref Z.f_Name_names))
  h_levels_Name : PySem.W.findIn K (.ref Z.c_Name) "levels" = some (some (.ref Z.f_Term_levels))
  h_told_Name : PySem.W.findIn K (.ref Z.c_Name) "told" = some (some (.ref Z.f_Name_told))
  m_Value : mg "Value" = some (.ref Z.c_Value)
  x_Value : tcB K Z.c_Value ["amount"] = true
  i_Value : PySem.W.findIn K (.ref Z.c_Value) "__init__" = some (some (.ref Z.f_Value_init))
  h_parts_Value : PySem.W.findIn K (.ref Z.c_Value) "parts" = some (some (.ref Z.f_Term_parts))
  h_names_Value : PySem.W.findIn K (.ref Z.c_Value) "names" = some (some (.ref Z.f_Term_names))
  h_levels_Value : PySem.W.findIn K (.ref Z.c_Value) "levels" = some (some (.ref Z.f_Term_levels))
  h_told_Value : PySem.W.findIn K (.ref Z.c_Value) "told" = some (some (.ref Z.f_Value_told))
  m_Two : mg "Two" = some (.ref Z.c_Two)
  x_Two : tcB K Z.c_Two ["op", "one", "second"] = true
  i_Two : PySem.W.findIn K (.ref Z.c_Two) "__init__" = some (some (.ref Z.f_Two_init))
  h_parts_Two : PySem.W.findIn K (.ref Z.c_Two) "parts" = some (some (.ref Z.f_Two_parts))
  h_names_Two : PySem.W.findIn K (.ref Z.c_Two) "names" = some (some (.ref Z.f_Term_names))
  h_levels_Two : PySem.W.findIn K (.ref Z.c_Two) "levels" = some (some (.ref Z.f_Term_levels))
  h_told_Two : PySem.W.findIn K (.ref Z.c_Two) "told" = some (some (.ref Z.f_Two_told))
  m_Not : mg "Not" = some (.ref Z.c_Not)
  x_Not : tcB K Z.c_Not ["one"] = true
  i_Not : PySem.W.findIn K (.ref Z.c_Not) "__init__" = some (some (.ref Z.f_Not_init))
  h_parts_Not : PySem.W.findIn K (.ref Z.c_Not) "parts" = some (some (.ref Z.f_Not_parts))
  h_names_Not : PySem.W.findIn K (.ref Z.c_Not) "names" = some (some (.ref Z.f_Term_names))
  h_levels_Not : PySem.W.findIn K (.ref Z.c_Not) "levels" = some (some (.ref Z.f_Term_levels))
  h_told_Not : PySem.W.findIn K (.ref Z.c_Not) "told" = some (some (.ref Z.f_Not_told))
  m_Pick : mg "Pick" = some (.ref Z.c_Pick)
  x_Pick : tcB K Z.c_Pick ["by", "one", "second"] = true
  i_Pick : PySem.W.findIn K (.ref Z.c_Pick) "__init__" = some (some (.ref Z.f_Pick_init))
  h_parts_Pick : PySem.W.findIn K (.ref Z.c_Pick) "parts" = some (some (.ref Z.f_Pick_parts))
  h_names_Pick : PySem.W.findIn K (.ref Z.c_Pick) "names" = some (some (.ref Z.f_Term_names))
  h_levels_Pick : PySem.W.findIn K (.ref Z.c_Pick) "levels" = some (some (.ref Z.f_Term_levels))
  h_told_Pick : PySem.W.findIn K (.ref Z.c_Pick) "told" = some (some (.ref Z.f_Pick_told))
  fact_dif : difB [Z.c_Name, Z.c_Value, Z.c_Two, Z.c_Not, Z.c_Pick] = true
  fact_is_Name : subB K Z.c_Name Z.c_Term = true
  fact_is_Value : subB K Z.c_Value Z.c_Term = true
  fact_is_Two : subB K Z.c_Two Z.c_Term = true
  fact_is_Not : subB K Z.c_Not Z.c_Term = true
  fact_is_Pick : subB K Z.c_Pick Z.c_Term = true
  n_all : mg "all" = none
  n_bool : mg "bool" = none
  n_int : mg "int" = none
  n_isinstance : mg "isinstance" = none
  n_len : mg "len" = none
  n_list : mg "list" = none
  n_max : mg "max" = none
  n_min : mg "min" = none
  n_range : mg "range" = none
  n_repr : mg "repr" = none
  n_str : mg "str" = none
  n_tuple : mg "tuple" = none
  c_LETTERS : ∃ u, mg "LETTERS" = some u ∧ RelV (.str "abcdefghijklmnopqrstuvwxyz") u
  c_LONGEST : ∃ u, mg "LONGEST" = some u ∧ RelV (.int 8) u
  c_MOST : ∃ u, mg "MOST" = some u ∧ RelV (.int 1000000000) u
  c_MOST_LEVELS : ∃ u, mg "MOST_LEVELS" = some u ∧ RelV (.int 5) u
  c_MOST_SIGNS : ∃ u, mg "MOST_SIGNS" = some u ∧ RelV (.int 80) u
  c_OPS : ∃ u, mg "OPS" = some u ∧ RelV (.ref Z.a_OPS) u
  t_OPS : ∀ H, SqT K H Z.a_OPS [.str "+", .str "-", .str "*", .str "/", .str "mod", .str "<", .str "=", .str "&", .str "|"]
  c_OWN : ∃ u, mg "OWN" = some u ∧ RelV (.ref Z.a_OWN) u
  t_OWN : ∀ H, SqT K H Z.a_OWN [.str "node", .str "in", .str "out", .str "before", .str "when", .str "hold", .str "like", .str "same", .str "call", .str "true", .str "false", .str "mod", .str "beat", .str "desk"]
abbrev N_is_whole : List Str := ["thing"]
theorem sc_is_whole : FnScope N_is_whole ["thing"] (defScope s_is_whole) := ⟨rfl, rfl, rfl, by decide +kernel, rfl, by decide +kernel, by decide +kernel⟩
abbrev N_is_within : List Str := ["thing", "low", "high"]
theorem sc_is_within : FnScope N_is_within ["thing", "low", "high"] (defScope s_is_within) := ⟨rfl, rfl, rfl, by decide +kernel, rfl, by decide +kernel, by decide +kernel⟩
abbrev N_is_name : List Str := ["thing", "sign"]
theorem sc_is_name : FnScope N_is_name ["thing"] (defScope s_is_name) := ⟨rfl, rfl, rfl, by decide +kernel, rfl, by decide +kernel, by decide +kernel⟩
abbrev N_is_pointed : List Str := ["thing", "part"]
theorem sc_is_pointed : FnScope N_is_pointed ["thing"] (defScope s_is_pointed) := ⟨rfl, rfl, rfl, by decide +kernel, rfl, by decide +kernel, by decide +kernel⟩
abbrev N_is_value : List Str := ["thing"]
theorem sc_is_value : FnScope N_is_value ["thing"] (defScope s_is_value) := ⟨rfl, rfl, rfl, by decide +kernel, rfl, by decide +kernel, by decide +kernel⟩
abbrev N_ops_told : List Str := []
theorem sc_ops_told : FnScope N_ops_told [] (defScope s_ops_told) := ⟨rfl, rfl, rfl, by decide +kernel, rfl, by decide +kernel, by decide +kernel⟩
abbrev N_Term_parts : List Str := ["self"]
theorem sc_Term_parts : FnScope N_Term_parts ["self"] (defScope s_Term_parts) := ⟨rfl, rfl, rfl, by decide +kernel, rfl, by decide +kernel, by decide +kernel⟩
abbrev N_Term_names : List Str := ["self", "found", "part", "name"]
theorem sc_Term_names : FnScope N_Term_names ["self"] (defScope s_Term_names) := ⟨rfl, rfl, rfl, by decide +kernel, rfl, by decide +kernel, by decide +kernel⟩
abbrev N_Term_levels : List Str := ["self", "part"]
theorem sc_Term_levels : FnScope N_Term_levels ["self"] (defScope s_Term_levels) := ⟨rfl, rfl, rfl, by decide +kernel, rfl, by decide +kernel, by decide +kernel⟩
abbrev N_need_term : List Str := ["thing"]
theorem sc_need_term : FnScope N_need_term ["thing"] (defScope s_need_term) := ⟨rfl, rfl, rfl, by decide +kernel, rfl, by decide +kernel, by decide +kernel⟩
abbrev N_Name_init : List Str := ["self", "name"]
theorem sc_Name_init : FnScope N_Name_init ["self", "name"] (defScope s_Name_init) := ⟨rfl, rfl, rfl, by decide +kernel, rfl, by decide +kernel, by decide +kernel⟩
abbrev N_Name_names : List Str := ["self"]
theorem sc_Name_names : FnScope N_Name_names ["self"] (defScope s_Name_names) := ⟨rfl, rfl, rfl, by decide +kernel, rfl, by decide +kernel, by decide +kernel⟩
abbrev N_Name_told : List Str := ["self"]
theorem sc_Name_told : FnScope N_Name_told ["self"] (defScope s_Name_told) := ⟨rfl, rfl, rfl, by decide +kernel, rfl, by decide +kernel, by decide +kernel⟩
abbrev N_Value_init : List Str := ["self", "value"]
theorem sc_Value_init : FnScope N_Value_init ["self", "value"] (defScope s_Value_init) := ⟨rfl, rfl, rfl, by decide +kernel, rfl, by decide +kernel, by decide +kernel⟩
abbrev N_Value_told : List Str := ["self"]
theorem sc_Value_told : FnScope N_Value_told ["self"] (defScope s_Value_told) := ⟨rfl, rfl, rfl, by decide +kernel, rfl, by decide +kernel, by decide +kernel⟩
abbrev N_Two_init : List Str := ["self", "op", "one", "other"]
theorem sc_Two_init : FnScope N_Two_init ["self", "op", "one", "other"] (defScope s_Two_init) := ⟨rfl, rfl, rfl, by decide +kernel, rfl, by decide +kernel, by decide +kernel⟩
abbrev N_Two_parts : List Str := ["self"]
theorem sc_Two_parts : FnScope N_Two_parts ["self"] (defScope s_Two_parts) := ⟨rfl, rfl, rfl, by decide +kernel, rfl, by decide +kernel, by decide +kernel⟩
abbrev N_Two_told : List Str := ["self"]
theorem sc_Two_told : FnScope N_Two_told ["self"] (defScope s_Two_told) := ⟨rfl, rfl, rfl, by decide +kernel, rfl, by decide +kernel, by decide +kernel⟩
abbrev N_Not_init : List Str := ["self", "one"]
theorem sc_Not_init : FnScope N_Not_init ["self", "one"] (defScope s_Not_init) := ⟨rfl, rfl, rfl, by decide +kernel, rfl, by decide +kernel, by decide +kernel⟩
abbrev N_Not_parts : List Str := ["self"]
theorem sc_Not_parts : FnScope N_Not_parts ["self"] (defScope s_Not_parts) := ⟨rfl, rfl, rfl, by decide +kernel, rfl, by decide +kernel, by decide +kernel⟩
abbrev N_Not_told : List Str := ["self"]
theorem sc_Not_told : FnScope N_Not_told ["self"] (defScope s_Not_told) := ⟨rfl, rfl, rfl, by decide +kernel, rfl, by decide +kernel, by decide +kernel⟩
abbrev N_Pick_init : List Str := ["self", "by", "one", "other"]
theorem sc_Pick_init : FnScope N_Pick_init ["self", "by", "one", "other"] (defScope s_Pick_init) := ⟨rfl, rfl, rfl, by decide +kernel, rfl, by decide +kernel, by decide +kernel⟩
abbrev N_Pick_parts : List Str := ["self"]
theorem sc_Pick_parts : FnScope N_Pick_parts ["self"] (defScope s_Pick_parts) := ⟨rfl, rfl, rfl, by decide +kernel, rfl, by decide +kernel, by decide +kernel⟩
abbrev N_Pick_told : List Str := ["self"]
theorem sc_Pick_told : FnScope N_Pick_told ["self"] (defScope s_Pick_told) := ⟨rfl, rfl, rfl, by decide +kernel, rfl, by decide +kernel, by decide +kernel⟩
abbrev N_simple_of : List Str := ["word", "thing"]
theorem sc_simple_of : FnScope N_simple_of ["word", "thing"] (defScope s_simple_of) := ⟨rfl, rfl, rfl, by decide +kernel, rfl, by decide +kernel, by decide +kernel⟩
abbrev N_made_of_told : List Str := ["told", "left", "word", "first", "parts", "one"]
theorem sc_made_of_told : FnScope N_made_of_told ["told", "left"] (defScope s_made_of_told) := ⟨rfl, rfl, rfl, by decide +kernel, rfl, by decide +kernel, by decide +kernel⟩
abbrev N_term_of : List Str := ["told", "found"]
theorem sc_term_of : FnScope N_term_of ["told"] (defScope s_term_of) := ⟨rfl, rfl, rfl, by decide +kernel, rfl, by decide +kernel, by decide +kernel⟩
abbrev N_cell_at_l : List Str := ["_law_script", "_law_k"]
theorem sc_cell_at_l : FnScope N_cell_at_l ["_law_script", "_law_k"] (defScope s_cell_at_l) := ⟨rfl, rfl, rfl, by decide +kernel, rfl, by decide +kernel, by decide +kernel⟩
abbrev N_box_l : List Str := ["_law_cell"]
theorem sc_box_l : FnScope N_box_l ["_law_cell"] (defScope s_box_l) := ⟨rfl, rfl, rfl, by decide +kernel, rfl, by decide +kernel, by decide +kernel⟩
abbrev N_take_l : List Str := ["_law_box_here", "_law_many", "_law_number"]
theorem sc_take_l : FnScope N_take_l ["_law_box_here", "_law_many"] (defScope s_take_l) := ⟨rfl, rfl, rfl, by decide +kernel, rfl, by decide +kernel, by decide +kernel⟩
abbrev N_value_l : List Str := ["_law_box_here", "_law_way"]
theorem sc_value_l : FnScope N_value_l ["_law_box_here"] (defScope s_value_l) := ⟨rfl, rfl, rfl, by decide +kernel, rfl, by decide +kernel, by decide +kernel⟩
abbrev N_told_l : List Str := ["_law_box_here", "_law_left", "_law_names_here", "_law_way", "_law_parts", "_law_k", "_law_op", "_law_one"]
theorem sc_told_l : FnScope N_told_l ["_law_box_here", "_law_left", "_law_names_here"] (defScope s_told_l) := ⟨rfl, rfl, rfl, by decide +kernel, rfl, by decide +kernel, by decide +kernel⟩
abbrev N_made_l : List Str := ["_law_told_here"]
theorem sc_made_l : FnScope N_made_l ["_law_told_here"] (defScope s_made_l) := ⟨rfl, rfl, rfl, by decide +kernel, rfl, by decide +kernel, by decide +kernel⟩
abbrev N_names_l : List Str := ["_law_told_here", "_law_found", "_law_one", "_law_name"]
theorem sc_names_l : FnScope N_names_l ["_law_told_here"] (defScope s_names_l) := ⟨rfl, rfl, rfl, by decide +kernel, rfl, by decide +kernel, by decide +kernel⟩
abbrev N_levels_l : List Str := ["_law_told_here", "_law_one"]
theorem sc_levels_l : FnScope N_levels_l ["_law_told_here"] (defScope s_levels_l) := ⟨rfl, rfl, rfl, by decide +kernel, rfl, by decide +kernel, by decide +kernel⟩
abbrev N_right_l : List Str := ["_law_term", "_law_told_here", "_law_found"]
theorem sc_right_l : FnScope N_right_l ["_law_term", "_law_told_here"] (defScope s_right_l) := ⟨rfl, rfl, rfl, by decide +kernel, rfl, by decide +kernel, by decide +kernel⟩
abbrev N_law : List Str := ["_law_script", "_law_names_here", "_law_k", "_law_box_here", "_law_told_here", "_law_term", "_law_both", "_law_third"]
theorem sc_law : FnScope N_law ["_law_script"] (defScope s_law) := ⟨rfl, rfl, rfl, by decide +kernel, rfl, by decide +kernel, by decide +kernel⟩
section
variable {P : Program} {w : World} {K : PySem.W.Frag} {mg : Str → Option Value} {base : Heap} {Z : Adr}
/-! ### words: whole numbers, values -/
def sp_is_whole (K : PySem.W.Frag) : Sp := fun vs H Q _ => ∃ (v : V) (n : String) (b1 b2 : Bool), vs = [v] ∧ TyX K H v (.type n) ∧ kitB n "int" = some b1 ∧ kitB n "bool" = some b2 ∧ Q (.bl (b1 && !b2)) H
theorem u_whole_int {K : PySem.W.Frag} {H : Hp} {Q : VK} {E : XK} {i : Int} (q : Q (.bl true) H) : sp_is_whole K [.int i] H Q E := ⟨_, _, _, _, rfl, ty_int i, kb_ii, kb_ib, q⟩
theorem u_whole_bl {K : PySem.W.Frag} {H : Hp} {Q : VK} {E : XK} {i : Bool} (q : Q (.bl false) H) : sp_is_whole K [.bl i] H Q E := ⟨_, _, _, _, rfl, ty_bl i, kb_bi, kb_bb, q⟩
def sp_is_within (K : PySem.W.Frag) : Sp := fun vs H Q _ => ∃ (v : V) (lo hi : Int), vs = [v, .int lo, .int hi] ∧
  ((∃ i, v = .int i ∧ Q (.bl (decide (lo ≤ i) && decide (i ≤ hi))) H) ∨ ∃ (n : String) (b1 b2 : Bool), TyX K H v (.type n) ∧ kitB n "int" = some b1 ∧ kitB n "bool" = some b2 ∧ (b1 && !b2) = false ∧ Q (.bl false) H)
def sp_is_value (K : PySem.W.Frag) : Sp := fun vs H Q _ => ∃ (v : V), vs = [v] ∧
  ((∃ i, v = .int i ∧ Q (.bl (decide (-1000000000 ≤ i) && decide (i ≤ 1000000000))) H) ∨ (∃ b, v = .bl b ∧ Q (.bl true) H) ∨ ∃ (n : String), TyX K H v (.type n) ∧ kitB n "int" = some false ∧ kitB n "bool" = some false ∧ Q (.bl false) H)
theorem ok_is_whole (T : Txt K mg Z) : FnOk P w K mg base CX0 1 Z.f_is_whole Z.fd_is_whole ["thing"] (sp_is_whole K) := by
  refine T.F_is_whole.ok sc_is_whole (fun vs H Q E h => ?_) (fun cdv AA outer s H vs Q E hr h => ?_)
  · obtain ⟨v, n, b1, b2, rfl, _⟩ := h
    rfl
  · obtain ⟨v, n, b1, b2, rfl, ty, h1, h2, k⟩ := h
    refine ⟨_, (pss_one (ps_ret (pe_and (pe_callB call_isi (by rfl) T.n_isinstance (by decide +kernel) (pa_cons (pv 0) (pa_cons (pe_bltn (v := .ty "int") (by rfl) T.n_int (by decide +kernel) rfl) pa_nil))) (pe_one (pe_not (pe_callB call_isi (by rfl) T.n_isinstance (by decide +kernel) (pa_cons (pv 0) (pa_cons (pe_bltn (v := .ty "bool") (by rfl) T.n_bool (by decide +kernel) rfl) pa_nil)))))))), ?_⟩
    walk_at "ss"
    refine isi ty h1 ?_
    walk_at "ss"
    refine if_cs (fun hb => ?_) (fun hb => ?_)
    · walk_at "ss"
      refine isi ty h2 ?_
      walk_at "ss"
      subst hb
      exact k
    · walk_at "ss"
      subst hb
      exact k
theorem ok_is_within (T : Txt K mg Z) : FnOk P w K mg base CX0 2 Z.f_is_within Z.fd_is_within ["thing", "low", "high"] (sp_is_within K) := by
  have G_is_whole := ok_is_whole (P := P) (w := w) (base := base) T
  refine T.F_is_within.ok sc_is_within (fun vs H Q E h => ?_) (fun cdv AA outer s H vs Q E hr h => ?_)
  · obtain ⟨v, lo, hi, rfl, _⟩ := h
    rfl
  · obtain ⟨v, lo, hi, rfl, k⟩ := h
    refine ⟨_, (pss_one (ps_ret (pe_and (pe_call G_is_whole (hr.mono (by omega)) rfl T.g_is_whole T.F_is_whole.kp T.b_is_whole .nil pass0 (pa_cons (pv 0) pa_nil)) (pe_one (pe_chain op_le op_le (pv 1) (pv 0) (pv 2)))))), ?_⟩
    rcases k with ⟨i, rfl, k⟩ | ⟨n, b1, b2, ty, h1, h2, hb, k⟩
    · walk_at "ss"
      refine u_whole_int ?_
      walk_at "ss"
      refine if_cs (fun hb => ?_) (fun hb => ?_)
      · walk_at "ss"
        rw [hb] at k
        exact k
      · walk_at "ss"
        rw [hb] at k
        exact k
    · walk_at "ss"
      refine ⟨_, _, _, _, rfl, ty, h1, h2, ?_⟩
      walk_at "ss"
      exact if_ff hb k
theorem ok_is_value (T : Txt K mg Z) : FnOk P w K mg base CX0 3 Z.f_is_value Z.fd_is_value ["thing"] (sp_is_value K) := by
  have G_is_within := ok_is_within (P := P) (w := w) (base := base) T
  refine T.F_is_value.ok sc_is_value (fun vs H Q E h => ?_) (fun cdv AA outer s H vs Q E hr h => ?_)
  · obtain ⟨v, rfl, _⟩ := h
    rfl
  · obtain ⟨v, rfl, k⟩ := h
    refine ⟨_, (pss_one (ps_ret (pe_or (pe_callB call_isi (by rfl) T.n_isinstance (by decide +kernel) (pa_cons (pv 0) (pa_cons (pe_bltn (v := .ty "bool") (by rfl) T.n_bool (by decide +kernel) rfl) pa_nil))) (pe_one (pe_call G_is_within (hr.mono (by omega)) rfl T.g_is_within T.F_is_within.kp T.b_is_within .nil pass0 (pa_cons (pv 0) (pa_cons (pe_un un_neg (pe_gcst rfl T.c_MOST)) (pa_cons (pe_gcst rfl T.c_MOST) pa_nil)))))))), ?_⟩
    rcases k with ⟨i, rfl, k⟩ | ⟨b, rfl, k⟩ | ⟨n, ty, h1, h2, k⟩
    · walk_at "ss"
      refine isi (ty_int i) kb_ib ?_
      walk_at "ss"
      refine ⟨_, _, _, rfl, .inl ⟨_, rfl, ?_⟩⟩
      exact k
    · walk_at "ss"
      refine isi (ty_bl b) kb_bb ?_
      walk_at "ss"
      exact k
    · walk_at "ss"
      refine isi ty h2 ?_
      walk_at "ss"
      refine ⟨_, _, _, rfl, .inr ⟨_, _, _, ty, h1, h2, rfl, ?_⟩⟩
      exact k

/-! ### the law's cells and draws -/
def sp_cell_at_l (K : PySem.W.Frag) : Sp := fun vs H Q _ => ∃ (a : Addr) (ns : List Int) (k : Int), vs = [.ref a, .int k] ∧ SqL K H a (ns.map V.int) ∧ 0 ≤ k ∧ ∀ n, Q (.int n) H
def sp_box_l : Sp := fun vs H Q _ => ∃ (c : Int), vs = [.int c] ∧ ∀ p H2, H p = none → Ex H H2 → BoxAt H2 p → Q (.ref p) H2
def sp_take_l : Sp := fun vs H Q _ => ∃ (b : Addr) (m : Int), vs = [.ref b, .int m] ∧ BoxAt H b ∧ 0 < m ∧ m < 1073741824 ∧ ∀ d H2, 0 ≤ d → d < m → ExB b H H2 → BoxAt H2 b → Q (.int d) H2
theorem ok_cell_at_l (T : Txt K mg Z) : FnOk P w K mg base CX0 1 Z.f_cell_at_l Z.fd_cell_at_l ["_law_script", "_law_k"] (sp_cell_at_l K) := by
  refine T.F_cell_at_l.ok sc_cell_at_l (fun vs H Q E h => ?_) (fun cdv AA outer s H vs Q E hr h => ?_)
  · obtain ⟨a, ns, k, rfl, _⟩ := h
    rfl
  · obtain ⟨a, ns, k, rfl, hS, h0, q⟩ := h
    refine ⟨_, (pss_cons (ps_if (pt_cmpR op_lt (pv 1) (pe_callB call_len_seq (by rfl) T.n_len (by decide +kernel) (pa_cons (pv 0) pa_nil)) (nomark _)) (pss_one (ps_ret (pe_ix ix_list (pv 0) (pv 1) (fun _ _ => rfl)))) pss_nil)
      (pss_one (ps_ret (pe_op op_add (pe_op op_mul pe_int (pv 1)) pe_int)))), ?_⟩
    walk_at "ss"
    refine ⟨_, _, rfl, .inl hS, ?_⟩
    walk_at "ss"
    refine if_cs (fun hb => ?_) (fun hb => ?_)
    · walk_at "ss"
      obtain ⟨j, rfl⟩ := Int.eq_ofNat_of_zero_le h0
      have hl := of_decide_eq_true hb
      rw [List.length_map] at hl
      have hj : j < ns.length := by omega
      refine c_ixL hS (atI_nat (v := .int (ns[j]'hj)) ?_) (q _)
      rw [List.getElem?_map, List.getElem?_eq_getElem hj] <;> rfl
    · walk_at "ss"
      refine c_I (.inl ⟨by decide, by decide⟩) ?_
      walk_at "ss"
      exact q _
theorem ok_box_l (T : Txt K mg Z) : FnOk P w K mg base CX0 1 Z.f_box_l Z.fd_box_l ["_law_cell"] sp_box_l := by
  refine T.F_box_l.ok sc_box_l (fun vs H Q E h => ?_) (fun cdv AA outer s H vs Q E hr h => ?_)
  · obtain ⟨c, rfl, _⟩ := h
    rfl
  · obtain ⟨c, rfl, k⟩ := h
    refine ⟨_, (pss_cons (ps_if (pt_cmpR op_ge (pv 0) (pe_op op_pow pe_int pe_int) (nomark _)) (pss_one (ps_ret (pe_lst (pa_cons (pv 0) (pa_cons (pe_op op_mod (pv 0) pe_int) (pa_cons pe_int pa_nil)))))) pss_nil)
      (pss_one (ps_ret (pe_lst (pa_cons pe_int (pa_cons (pe_op op_mod (pv 0) pe_int) (pa_cons pe_int pa_nil))))))), ?_⟩
    walk_at "ss"
    refine c_I ⟨by decide, by decide, by decide⟩ ?_
    walk_at "ss"
    refine if_cs (fun hb => ?_) (fun _ => ?_)
    · have hc : (0 : Int) ≤ c := by
        have := of_decide_eq_true hb
        have h0 : (0 : Int) ≤ 10 ^ Int.toNat 18 := by decide
        omega
      walk_at "ss"
      refine c_I (by decide) ?_
      walk_at "ss"
      exact newL fun p H2 hp e2 h2 => k p H2 hp e2 ⟨_, _, _, hc, h2⟩
    · walk_at "ss"
      refine c_I (by decide) ?_
      walk_at "ss"
      exact newL fun p H2 hp e2 h2 => k p H2 hp e2 ⟨_, _, _, Int.le_refl _, h2⟩
theorem ix3_0 {a b c : V} : atI [a, b, c] 0 = some a := rfl
theorem ix3_1 {a b c : V} : atI [a, b, c] 1 = some b := rfl
theorem ix3_2 {a b c : V} : atI [a, b, c] 2 = some c := rfl
theorem emod_mul {a m : Int} (h : 0 < m) (hm : m < 1073741824 * 1073741824) {b : Int} : CMul (a % m) b := by
  have h1 := Int.emod_nonneg a (by omega : m ≠ 0)
  have h2 := Int.emod_lt_of_pos a h
  exact .inl ⟨by omega, by omega⟩
theorem ok_take_l (T : Txt K mg Z) : FnOk P w K mg base CX0 1 Z.f_take_l Z.fd_take_l ["_law_box_here", "_law_many"] sp_take_l := by
  refine T.F_take_l.ok sc_take_l (fun vs H Q E h => ?_) (fun cdv AA outer s H vs Q E hr h => ?_)
  · obtain ⟨b, m, rfl, _⟩ := h
    rfl
  · obtain ⟨b, m, rfl, ⟨x, y, z, hx, hB⟩, m0, m1, k⟩ := h
    refine ⟨_, (pss_cons (ps_if (pt_cmpR op_gt (pe_ix ix_list (pv 0) pe_int (fun _ _ => rfl)) pe_int (nomark _)) (pss_cons (ps_set (i := 2) sc_take_l.nd rfl (Or.inl rfl) (pe_op op_mod (pe_ix ix_list (pv 0) pe_int (fun _ _ => rfl)) (pv 1)))
      (pss_cons (ps_asg (pe_op op_fdiv (pe_ix ix_list (pv 0) pe_int (fun _ _ => rfl)) (pv 1)) (pg_sub (pv 0) pe_int set_list))
      (pss_one (ps_ret (pv 2))))) pss_nil)
      (pss_cons (ps_asg (pe_op op_add (pe_ix ix_list (pv 0) pe_int (fun _ _ => rfl)) pe_int) (pg_sub (pv 0) pe_int set_list))
      (pss_cons (ps_set (i := 2) sc_take_l.nd rfl (Or.inl rfl) (pe_op op_mod (pe_op op_add (pe_op op_add (pe_op op_mul (pe_ix ix_list (pv 0) pe_int (fun _ _ => rfl)) pe_int) (pe_op op_mul pe_int (pe_ix ix_list (pv 0) pe_int (fun _ _ => rfl)))) pe_int) pe_int))
      (pss_cons (ps_set (i := 2) sc_take_l.nd rfl (Or.inl rfl) (pe_op op_mod (pe_op op_add (pe_op op_add (pe_op op_mul (pv 2) (pv 2)) (pe_op op_mul pe_int (pe_ix ix_list (pv 0) pe_int (fun _ _ => rfl)))) pe_int) pe_int))
      (pss_one (ps_ret (pe_op op_mod (pe_op op_mod (pe_op op_mul (pv 2) (pv 2)) pe_int) (pv 1)))))))), ?_⟩
    walk_at "ss"
    refine c_ixL (SqL.of hB) ix3_0 ?_
    walk_at "ss"
    refine if_cs (fun hb => ?_) (fun hb => ?_)
    · walk_at "ss"
      refine c_ixL (SqL.of hB) ix3_0 ?_
      walk_at "ss"
      refine c_I m0 ?_
      walk_at "ss"
      refine c_ixL (SqL.of hB) ix3_0 ?_
      walk_at "ss"
      refine c_I ⟨m0, m1⟩ ?_
      walk_at "ss"
      refine c_setL hB rfl ?_
      walk_at "ss"
      refine k _ _ (Int.emod_nonneg _ (by omega)) (Int.emod_lt_of_pos _ m0) ExB.upd ⟨_, _, _, Int.ediv_nonneg hx (by omega), upd_same⟩
    · walk_at "ss"
      refine c_ixL (SqL.of hB) ix3_2 ?_
      walk_at "ss"
      refine c_setL hB rfl ?_
      have hB2 : (upd H b (.lst [.int x, .int y, .int (z + 1)])) b = some (.lst [.int x, .int y, .int (z + 1)]) := upd_same
      walk_at "ss"
      refine c_ixL (SqL.of hB2) ix3_1 ?_
      walk_at "ss"
      refine c_I (.inr ⟨by decide, by decide⟩) ?_
      walk_at "ss"
      refine c_ixL (SqL.of hB2) ix3_2 ?_
      walk_at "ss"
      refine c_I (.inl ⟨by decide, by decide⟩) ?_
      walk_at "ss"
      refine c_I (by decide) ?_
      walk_at "ss"
      refine c_I (emod_mul (by decide) (by decide)) ?_
      walk_at "ss"
      refine c_ixL (SqL.of hB2) ix3_2 ?_
      walk_at "ss"
      refine c_I (.inl ⟨by decide, by decide⟩) ?_
      walk_at "ss"
      refine c_I (by decide) ?_
      walk_at "ss"
      refine c_I (emod_mul (by decide) (by decide)) ?_
      walk_at "ss"
      refine c_I (by decide) ?_
      walk_at "ss"
      refine c_I m0 ?_
      exact k _ _ (Int.emod_nonneg _ (by omega)) (Int.emod_lt_of_pos _ m0) ExB.upd ⟨_, _, _, hx, upd_same⟩

theorem box_ne {H : Hp} {b a : Addr} {o : HO} (h : BoxAt H b) (ha : H a = some o) (n : ∀ x y z : Int, o ≠ .lst [.int x, .int y, .int z]) : a ≠ b := by
  obtain ⟨x, y, z, _, q⟩ := h
  exact ne_of ha q (n x y z)
theorem at4 {v0 v1 v2 v3 : V} {d : Int} (h0 : 0 ≤ d) (h1 : d < 4) : ∃ v, atI [v0, v1, v2, v3] d = some v ∧ (d = 0 ∧ v = v0 ∨ d = 1 ∧ v = v1 ∨ d = 2 ∧ v = v2 ∨ d = 3 ∧ v = v3) := by
  have : d = 0 ∨ d = 1 ∨ d = 2 ∨ d = 3 := by omega
  rcases this with rfl | rfl | rfl | rfl
  · exact ⟨v0, rfl, .inl ⟨rfl, rfl⟩⟩
  · exact ⟨v1, rfl, .inr (.inl ⟨rfl, rfl⟩)⟩
  · exact ⟨v2, rfl, .inr (.inr (.inl ⟨rfl, rfl⟩))⟩
  · exact ⟨v3, rfl, .inr (.inr (.inr ⟨rfl, rfl⟩))⟩
/-- an item of a list that is asked by a draw: it is one of them -/
theorem at_in {xs : List V} {d : Int} (h0 : 0 ≤ d) (h1 : d < (xs.length : Int)) : ∃ v, atI xs d = some v ∧ v ∈ xs := by
  obtain ⟨j, rfl⟩ := Int.eq_ofNat_of_zero_le h0
  have hj : j < xs.length := by omega
  exact ⟨xs[j], atI_nat (List.getElem?_eq_getElem hj), List.getElem_mem hj⟩

/-! ### names -/
open TL (tl)
def ownW : List Str := ["node", "in", "out", "before", "when", "hold", "like", "same", "call", "true", "false", "mod", "beat", "desk"]
def ownV : List V := ownW.map V.str
def letC (c : Nat) : Bool := decide (97 ≤ c) && decide (c ≤ 122)
theorem tl_let : ∀ c : Nat, decide (c ∈ tl "abcdefghijklmnopqrstuvwxyz") = letC c := by
  intro c
  have e : tl "abcdefghijklmnopqrstuvwxyz" = [97, 98, 99, 100, 101, 102, 103, 104, 105, 106, 107, 108, 109, 110, 111, 112, 113, 114, 115, 116, 117, 118, 119, 120, 121, 122] := by decide +kernel
  rw [e]
  unfold letC
  rw [Bool.eq_iff_iff, decide_eq_true_eq, Bool.and_eq_true, decide_eq_true_eq, decide_eq_true_eq]
  simp only [List.mem_cons, List.not_mem_nil, or_false]
  omega
def isName (t : Str) : Bool := (decide (1 ≤ (t.length : Int)) && decide ((t.length : Int) ≤ 8)) && !inV (.str t) ownV && (tl t).all letC
def isPointed (t : Str) : Bool := decide ((t.length : Int) ≤ 80) && (Txt.split t ".").all isName
theorem kb_ss : kitB "str" "str" = some true := by decide +kernel
def sp_is_name (K : PySem.W.Frag) : Sp := fun vs H Q _ => ∃ (v : V), vs = [v] ∧ ((∃ t : Str, v = .str t ∧ t.length ≤ 50000 ∧ RetV (.bl (isName t)) H Q) ∨ ∃ n : String, TyX K H v (.type n) ∧ kitB n "str" = some false ∧ Q (.bl false) H)
theorem own_flat : ownV.all flatV = true := rfl
theorem ok_is_name (T : Txt K mg Z) : FnOk P w K mg base CX0 1 Z.f_is_name Z.fd_is_name ["thing"] (sp_is_name K) := by
  refine T.F_is_name.ok sc_is_name (fun vs H Q E h => ?_) (fun cdv AA outer s H vs Q E hr h => ?_)
  · obtain ⟨v, rfl, _⟩ := h
    rfl
  · obtain ⟨v, rfl, h⟩ := h
    refine ⟨_, (pss_cons (ps_if (PW.pt (pw_or (pt_not (pt_val (pe_callB call_isi (by rfl) T.n_isinstance (by decide +kernel) (pa_cons (pv 0) (pa_cons (pe_bltn (v := .ty "str") (by rfl) T.n_str (by decide +kernel) rfl) pa_nil))))) (pw_or (pt_not (pt_chain op_le op_le pe_int (pe_callB call_len_str (by rfl) T.n_len (by decide +kernel) (pa_cons (pv 0) pa_nil)) (pe_gcst rfl T.c_LONGEST))) (pw_or1 (pt_cmpR op_in_seq (pv 0) (pe_gcst rfl T.c_OWN) (by rfl)))))) (pss_one (ps_ret pe_bl)) pss_nil)
      (pss_one (ps_ret (pe_callB (cr_all rfl) (by rfl) T.n_all (by decide +kernel) (pa_cons (pe_lc (own := [("sign", 1)]) (g := (gName 1)) (tt := tYes) (te := (tOp (fun x y H Q => ∃ (c : Nat) (z : Str), x = .str ⟨#[c]⟩ ∧ y = .str z ∧ Q (.bl (decide (c ∈ z.cps.toList))) H) (tVar 1) (tC (.str "abcdefghijklmnopqrstuvwxyz")))) rfl sc_is_name.nd (pi_str (pv 0)) (blkOk_by (own := [("sign", 1)]) (N := N_is_name) (sc := defScope s_is_name) (by decide +kernel)) (fun _ _ _ _ _ => (pg_name (i := 1) sc_is_name.nd rfl (Or.inl rfl))) (fun _ _ _ _ _ => pts_nil) (fun _ _ _ _ _ => (pe_cmpR op_in_sign (pv 1) (pe_gcst rfl T.c_LETTERS) (by rfl)))) pa_nil))))), ?_⟩
    rcases h with ⟨t, rfl, hl, k⟩ | ⟨n, ty, kb, k⟩
    · unfold isName at k
      walk_at "ss"
      refine isi (ty_str t) kb_ss ?_
      walk_at "ss"
      refine ⟨Evl.sz_of (by omega), ?_⟩
      walk_at "ss"
      cases hlen : (decide (1 ≤ (t.length : Int)) && decide ((t.length : Int) ≤ 8)) with
      | false =>
        rw [hlen] at k
        refine if_cs (fun h1 => ?_) (fun h1 => ?_)
        · walk_at "ss"
          rw [h1, Bool.true_and] at hlen
          rw [hlen]
          walk_at "ss"
          exact k _ (Ex.refl _)
        · walk_at "ss"
          exact k _ (Ex.refl _)
      | true =>
        rw [hlen, Bool.true_and] at k
        rw [Bool.and_eq_true] at hlen
        rw [hlen.1]
        walk_at "ss"
        rw [hlen.2]
        walk_at "ss"
        refine c_in (.inr (T.t_OWN _)) rfl own_flat ?_
        refine ⟨_, rfl, if_cs (fun ho => ?_) (fun ho => ?_)⟩
        · have ho' : inV (.str t) ownV = true := ho
          rw [ho'] at k
          walk_at "ss"
          exact k _ (Ex.refl _)
        have ho' : inV (.str t) ownV = false := ho
        rw [ho', Bool.not_false, Bool.true_and] at k
        walk_at "ss"
        refine lcS (fun c => some (.bl (letC c))) hl (fun c hc => ?_) ?_
        · intro H2 e2 R hR
          walk_at "ss"
          rw [show decide (c ∈ (Str.ofString "abcdefghijklmnopqrstuvwxyz").cps.toList) = letC c from tl_let c]
          exact hR _ (Ex.refl _)
        rw [fm_some]
        intro p H2 hp e2 h2
        walk_at "ss"
        refine ⟨p, (tl t).map letC, rfl, SqL.of (by rw [h2, List.map_map]; rfl), ?_⟩
        have ea : ((tl t).map letC).all id = (tl t).all letC := by rw [List.all_map]; rfl
        rw [ea]
        exact k _ e2
    · walk_at "ss"
      refine isi ty kb ?_
      walk_at "ss"
      exact k
/-! parts of a split text -/
theorem spl_parts (S : List Nat) : ∀ (k : Nat) (acc l : List Nat) (p : List Nat), p ∈ TL.spl S k acc l → p.length ≤ acc.length + l.length ∧ ∀ c ∈ p, c ∈ acc ∨ c ∈ l := by
  intro k acc l
  induction l generalizing k acc with
  | nil =>
    intro p hp
    rw [TL.spl_nil] at hp
    have : p = acc := by simpa using hp
    subst this
    exact ⟨by simp, fun c hc => .inl hc⟩
  | cons a l ih =>
    intro p hp
    cases k with
    | succ k =>
      have hp' : p ∈ TL.spl S k acc l := hp
      obtain ⟨h1, h2⟩ := ih k acc p hp'
      exact ⟨by rw [List.length_cons]; omega, fun c hc => (h2 c hc).imp id (List.mem_cons_of_mem _)⟩
    | zero =>
      cases hh : TL.pre S (a :: l) with
      | true =>
        rw [TL.spl_hit hh] at hp
        rcases List.mem_cons.mp hp with rfl | hp
        · exact ⟨by omega, fun c hc => .inl hc⟩
        · obtain ⟨h1, h2⟩ := ih _ [] p hp
          exact ⟨by rw [List.length_nil] at h1; rw [List.length_cons]; omega, fun c hc => .inr (List.mem_cons_of_mem _ ((h2 c hc).resolve_left (by simp)))⟩
      | false =>
        rw [TL.spl_miss hh] at hp
        obtain ⟨h1, h2⟩ := ih 0 (acc ++ [a]) p hp
        refine ⟨by rw [List.length_append, List.length_singleton] at h1; rw [List.length_cons]; omega, fun c hc => ?_⟩
        rcases h2 c hc with h | h
        · rcases List.mem_append.mp h with h | h
          · exact .inl h
          · exact .inr (by have : c = a := by simpa using h
                           rw [this]; exact List.mem_cons_self)
        · exact .inr (List.mem_cons_of_mem _ h)
theorem split_pt {t p : Str} (h : p ∈ Txt.split t ".") : p.length ≤ t.length ∧ ∀ c ∈ tl p, c ∈ tl t := by
  have e := TL.split_spl t "." (by decide +kernel) (TL.kind_ok (by decide +kernel))
  have hm : tl p ∈ TL.spl (tl ".") 0 [] (tl t) := by
    rw [← e]
    exact List.mem_map_of_mem h
  obtain ⟨h1, h2⟩ := spl_parts _ _ _ _ _ hm
  rw [tl_len, tl_len, List.length_nil, Nat.zero_add] at h1
  exact ⟨h1, fun c hc => (h2 c hc).resolve_left (by simp)⟩
def sp_is_pointed (K : PySem.W.Frag) : Sp := fun vs H Q _ => ∃ (v : V), vs = [v] ∧ ((∃ t : Str, v = .str t ∧ t.length ≤ 40000 ∧ RetV (.bl (isPointed t)) H Q) ∨ ∃ n : String, TyX K H v (.type n) ∧ kitB n "str" = some false ∧ Q (.bl false) H)
theorem spl_count (S : List Nat) : ∀ (k : Nat) (acc l : List Nat), (TL.spl S k acc l).length ≤ l.length + 1 := by
  intro k acc l
  induction l generalizing k acc with
  | nil => rw [TL.spl_nil]; simp
  | cons a l ih =>
    cases k with
    | succ k => exact Nat.le_trans (ih k acc) (by rw [List.length_cons]; omega)
    | zero =>
      cases hh : TL.pre S (a :: l) with
      | true =>
        rw [TL.spl_hit hh, List.length_cons, List.length_cons]
        exact Nat.succ_le_succ (ih _ [])
      | false =>
        rw [TL.spl_miss hh, List.length_cons]
        exact Nat.le_trans (ih 0 _) (by omega)
theorem split_count {t : Str} : (Txt.split t ".").length ≤ t.length + 1 := by
  have e := TL.split_spl t "." (by decide +kernel) (TL.kind_ok (by decide +kernel))
  have h := spl_count (tl ".") 0 [] (tl t)
  rw [← e, List.length_map, tl_len] at h
  exact h
theorem ok_is_pointed (T : Txt K mg Z) : FnOk P w K mg base CX0 2 Z.f_is_pointed Z.fd_is_pointed ["thing"] (sp_is_pointed K) := by
  have G_is_name := ok_is_name (P := P) (w := w) (base := base) T
  refine T.F_is_pointed.ok sc_is_pointed (fun vs H Q E h => ?_) (fun cdv AA outer s H vs Q E hr h => ?_)
  · obtain ⟨v, rfl, _⟩ := h
    rfl
  · obtain ⟨v, rfl, h⟩ := h
    refine ⟨_, (pss_cons (ps_if (PW.pt (pw_or (pt_not (pt_val (pe_callB call_isi (by rfl) T.n_isinstance (by decide +kernel) (pa_cons (pv 0) (pa_cons (pe_bltn (v := .ty "str") (by rfl) T.n_str (by decide +kernel) rfl) pa_nil))))) (pw_or1 (pt_cmpR op_gt (pe_callB call_len_str (by rfl) T.n_len (by decide +kernel) (pa_cons (pv 0) pa_nil)) (pe_gcst rfl T.c_MOST_SIGNS) (nomark _))))) (pss_one (ps_ret pe_bl)) pss_nil)
      (pss_one (ps_ret (pe_callB (cr_all rfl) (by rfl) T.n_all (by decide +kernel) (pa_cons (pe_lc (own := [("part", 1)]) (g := (gName 1)) (tt := tYes) (te := (tCall (sp_is_name K) [] E0 (tCons (tVar 1) tNil))) rfl sc_is_pointed.nd (pi_list (pe_split (pv 0) pe_str)) (blkOk_by (own := [("part", 1)]) (N := N_is_pointed) (sc := defScope s_is_pointed) (by decide +kernel)) (fun _ _ _ _ _ => (pg_name (i := 1) sc_is_pointed.nd rfl (Or.inl rfl))) (fun _ _ _ _ _ => pts_nil) (fun _ _ _ _ _ => (pe_call G_is_name (hr.mono (by omega)) rfl T.g_is_name T.F_is_name.kp T.b_is_name .nil pass0 (pa_cons (pv 1) pa_nil)))) pa_nil))))), ?_⟩
    rcases h with ⟨t, rfl, hl, k⟩ | ⟨n, ty, kb, k⟩
    · unfold isPointed at k
      walk_at "ss"
      refine isi (ty_str t) kb_ss ?_
      walk_at "ss"
      refine ⟨Evl.sz_of (by omega), ?_⟩
      walk_at "ss"
      refine if_cs (fun h80 => ?_) (fun h80 => ?_)
      · have : ¬ (t.length : Int) ≤ 80 := by have := of_decide_eq_true h80; omega
        rw [decide_eq_false this] at k
        walk_at "ss"
        exact k _ (Ex.refl _)
      have : (t.length : Int) ≤ 80 := by have := of_decide_eq_false h80; omega
      rw [decide_eq_true this, Bool.true_and] at k
      walk_at "ss"
      refine ⟨⟨_, rfl⟩, ?_⟩
      walk_at "ss"
      refine ⟨Evl.sz_of (by omega), fun q hq => ?_⟩
      have f1 : Ex H (upd H q (.lst ((Txt.split t ".").map V.str))) := Ex.new hq
      generalize hH1 : upd H q (.lst ((Txt.split t ".").map V.str)) = H1 at f1
      have g1 : H1 q = some (.lst ((Txt.split t ".").map V.str)) := by rw [← hH1, upd_same]
      walk_at "ss"
      refine ⟨⟨_, SqL.of g1⟩, lcLv (fun v => match v with | .str p => some (.bl (isName p)) | _ => none) (SqL.of g1) (by have := split_count (t := t); rw [List.length_map]; omega) (fun v hv => ?_) ?_⟩
      · obtain ⟨p, hp, rfl⟩ := List.mem_map.mp hv
        have hpl := (split_pt hp).1
        intro H2 e2 R hR
        walk_at "ss"
        refine ⟨_, rfl, .inl ⟨_, rfl, by omega, fun H3 e3 => ?_⟩⟩
        exact hR _ e3
      have em : ((Txt.split t ".").map V.str).filterMap (fun v => match v with | .str p => some (V.bl (isName p)) | _ => none) = ((Txt.split t ".").map isName).map V.bl := by
        rw [List.filterMap_map, List.map_map]
        exact fm_some (F := fun p => V.bl (isName p)) _
      rw [em]
      intro p2 H2 hp2 e2 g2
      walk_at "ss"
      refine ⟨p2, (Txt.split t ".").map isName, rfl, SqL.of g2, ?_⟩
      have ea : ((Txt.split t ".").map isName).all id = (Txt.split t ".").all isName := by rw [List.all_map]; rfl
      rw [ea]
      exact k _ (f1.trans e2)
    · walk_at "ss"
      refine isi ty kb ?_
      walk_at "ss"
      exact k

/-! ### terms: the plain side -/
inductive Tm where
  | nm (s : Str)
  | vl (v : V)
  | two (op : Str) (a b : Tm)
  | nt (a : Tm)
  | pk (c a b : Tm)
def Tm.parts : Tm → List Tm
  | .two _ a b => [a, b]
  | .nt a => [a]
  | .pk c a b => [c, a, b]
  | _ => []
def Tm.dep : Tm → Nat
  | .nm _ => 1
  | .vl _ => 1
  | .two _ a b => 1 + max a.dep b.dep
  | .nt a => 1 + a.dep
  | .pk c a b => 1 + max (max c.dep a.dep) b.dep
def addN (found more : List Str) : List Str := found ++ more.filter fun n => !found.contains n
def Tm.names : Tm → List Str
  | .nm s => [s]
  | .vl _ => []
  | .two _ a b => addN (addN [] a.names) b.names
  | .nt a => addN [] a.names
  | .pk c a b => addN (addN (addN [] c.names) a.names) b.names
theorem Tm.names_parts (t : Tm) (h : ∀ s, t ≠ .nm s) : t.names = t.parts.foldl (fun acc p => addN acc p.names) [] := by
  cases t with
  | nm s => exact absurd rfl (h s)
  | vl v => rfl
  | two op a b => rfl
  | nt a => rfl
  | pk c a b => rfl
theorem Tm.dep_parts (t : Tm) : (t.dep : Int) = 1 + maxL (t.parts.map fun p => (p.dep : Int)) := by
  have m2 : ∀ a b : Nat, PySem.W.maxOf (a : Int) [(b : Int)] = ((max a b : Nat) : Int) := by
    intro a b
    show (if decide ((a : Int) < (b : Int)) = true then (b : Int) else (a : Int)) = _
    by_cases h : (a : Int) < (b : Int)
    · rw [if_pos (decide_eq_true h)]; omega
    · rw [if_neg (by rw [decide_eq_false h]; decide)]; omega
  have m3 : ∀ a b c : Nat, PySem.W.maxOf (a : Int) [(b : Int), (c : Int)] = ((max (max a b) c : Nat) : Int) := by
    intro a b c
    have h1 := m2 a b
    have h2 := m2 (max a b) c
    show PySem.W.maxOf (PySem.W.maxOf (a : Int) [(b : Int)]) [(c : Int)] = _
    rw [h1, h2]
  cases t with
  | nm s => rfl
  | vl v => rfl
  | two op a b =>
    show ((1 + max a.dep b.dep : Nat) : Int) = 1 + PySem.W.maxOf (a.dep : Int) [(b.dep : Int)]
    rw [m2]; omega
  | nt a =>
    show ((1 + a.dep : Nat) : Int) = 1 + (a.dep : Int)
    omega
  | pk c a b =>
    show ((1 + max (max c.dep a.dep) b.dep : Nat) : Int) = 1 + PySem.W.maxOf (c.dep : Int) [(a.dep : Int), (b.dep : Int)]
    rw [m3]; omega
theorem Tm.dep_pos (t : Tm) : 1 ≤ t.dep := by cases t <;> simp [Tm.dep] <;> omega
theorem Tm.dep_part {t p : Tm} (h : p ∈ t.parts) : p.dep + 1 ≤ t.dep := by
  cases t with
  | nm s => cases h
  | vl v => cases h
  | two op a b =>
    simp only [Tm.parts, List.mem_cons, List.not_mem_nil, or_false] at h
    rcases h with rfl | rfl <;> simp only [Tm.dep] <;> omega
  | nt a =>
    simp only [Tm.parts, List.mem_cons, List.not_mem_nil, or_false] at h
    subst h; simp only [Tm.dep]; omega
  | pk c a b =>
    simp only [Tm.parts, List.mem_cons, List.not_mem_nil, or_false] at h
    rcases h with rfl | rfl | rfl <;> simp only [Tm.dep] <;> omega
theorem Tm.parts_len (t : Tm) : t.parts.length ≤ 3 := by cases t <;> simp [Tm.parts]
/-! ### terms in the heap -/
def TermAt (Z : Adr) (H : Hp) : Tm → V → Prop
  | .nm s, v => ∃ a dx, v = .ref a ∧ H a = some (.ins Z.c_Name dx [("name", .str s)])
  | .vl x, v => ∃ a dx, v = .ref a ∧ H a = some (.ins Z.c_Value dx [("amount", x)])
  | .two op p q, v => ∃ a dx v1 v2, v = .ref a ∧ H a = some (.ins Z.c_Two dx [("op", .str op), ("one", v1), ("second", v2)]) ∧ TermAt Z H p v1 ∧ TermAt Z H q v2
  | .nt p, v => ∃ a dx v1, v = .ref a ∧ H a = some (.ins Z.c_Not dx [("one", v1)]) ∧ TermAt Z H p v1
  | .pk c p q, v => ∃ a dx v0 v1 v2, v = .ref a ∧ H a = some (.ins Z.c_Pick dx [("by", v0), ("one", v1), ("second", v2)]) ∧ TermAt Z H c v0 ∧ TermAt Z H p v1 ∧ TermAt Z H q v2
def InsK (H H2 : Hp) : Prop := ∀ a C dx fs, H a = some (.ins C dx fs) → H2 a = some (.ins C dx fs)
theorem TermAt.keep {Z : Adr} {H H2 : Hp} (e : InsK H H2) : ∀ {t : Tm} {v : V}, TermAt Z H t v → TermAt Z H2 t v := by
  intro t
  induction t with
  | nm s => rintro v ⟨a, dx, h1, h2⟩; exact ⟨a, dx, h1, e _ _ _ _ h2⟩
  | vl x => rintro v ⟨a, dx, h1, h2⟩; exact ⟨a, dx, h1, e _ _ _ _ h2⟩
  | two op p q ihp ihq => rintro v ⟨a, dx, v1, v2, h1, h2, h3, h4⟩; exact ⟨a, dx, v1, v2, h1, e _ _ _ _ h2, ihp h3, ihq h4⟩
  | nt p ihp => rintro v ⟨a, dx, v1, h1, h2, h3⟩; exact ⟨a, dx, v1, h1, e _ _ _ _ h2, ihp h3⟩
  | pk c p q ihc ihp ihq => rintro v ⟨a, dx, v0, v1, v2, h1, h2, h3, h4, h5⟩; exact ⟨a, dx, v0, v1, v2, h1, e _ _ _ _ h2, ihc h3, ihp h4, ihq h5⟩
theorem TermAt.up {Z : Adr} {H H2 : Hp} {t : Tm} {v : V} (h : TermAt Z H t v) (e : Ex H H2) : TermAt Z H2 t v := h.keep fun a C dx fs q => e _ _ q
theorem TermAt.upB {Z : Adr} {H H2 : Hp} {t : Tm} {v : V} {b : Addr} (h : TermAt Z H t v) (e : ExB b H H2) (hB : BoxAt H b) : TermAt Z H2 t v := h.keep fun a C dx fs q => e _ _ (box_ne hB q (fun _ _ _ z => by cases z)) q
def MC (Z : Adr) (C : Addr) : Prop := C = Z.c_Name ∨ C = Z.c_Value ∨ C = Z.c_Two ∨ C = Z.c_Not ∨ C = Z.c_Pick
/-- the class that a term is made of -/
def clsT (Z : Adr) : Tm → Addr
  | .nm _ => Z.c_Name
  | .vl _ => Z.c_Value
  | .two .. => Z.c_Two
  | .nt _ => Z.c_Not
  | .pk .. => Z.c_Pick
theorem clsT_MC (Z : Adr) (t : Tm) : MC Z (clsT Z t) := by
  cases t
  · exact .inl rfl
  · exact .inr (.inl rfl)
  · exact .inr (.inr (.inl rfl))
  · exact .inr (.inr (.inr (.inl rfl)))
  · exact .inr (.inr (.inr (.inr rfl)))
def fieldsOff (fs : List (Str × V)) : Prop := fs.lookup ("parts" : Str) = none ∧ fs.lookup ("names" : Str) = none ∧ fs.lookup ("levels" : Str) = none ∧ fs.lookup ("told" : Str) = none
theorem TermAt.cls {Z : Adr} {H : Hp} {t : Tm} {v : V} (h : TermAt Z H t v) : ∃ a dx fs, v = .ref a ∧ H a = some (.ins (clsT Z t) dx fs) ∧ fieldsOff fs := by
  have n1 : ∀ m f : Str, m ≠ f → (m == f) = false := fun m f h => by simpa using h
  cases t with
  | nm s =>
    obtain ⟨a, dx, h1, h2⟩ := h
    refine ⟨a, dx, _, h1, h2, ?_, ?_, ?_, ?_⟩ <;> (simp only [List.lookup]; rw [n1 _ _ (by decide +kernel)])
  | vl x =>
    obtain ⟨a, dx, h1, h2⟩ := h
    refine ⟨a, dx, _, h1, h2, ?_, ?_, ?_, ?_⟩ <;> (simp only [List.lookup]; rw [n1 _ _ (by decide +kernel)])
  | two op p q =>
    obtain ⟨a, dx, v1, v2, h1, h2, _⟩ := h
    refine ⟨a, dx, _, h1, h2, ?_, ?_, ?_, ?_⟩ <;> (simp only [List.lookup]; rw [n1 _ _ (by decide +kernel)]; simp only []; rw [n1 _ _ (by decide +kernel)]; simp only []; rw [n1 _ _ (by decide +kernel)])
  | nt p =>
    obtain ⟨a, dx, v1, h1, h2, _⟩ := h
    refine ⟨a, dx, _, h1, h2, ?_, ?_, ?_, ?_⟩ <;> (simp only [List.lookup]; rw [n1 _ _ (by decide +kernel)])
  | pk c p q =>
    obtain ⟨a, dx, v0, v1, v2, h1, h2, _⟩ := h
    refine ⟨a, dx, _, h1, h2, ?_, ?_, ?_, ?_⟩ <;> (simp only [List.lookup]; rw [n1 _ _ (by decide +kernel)]; simp only []; rw [n1 _ _ (by decide +kernel)]; simp only []; rw [n1 _ _ (by decide +kernel)])

/-! ### methods of terms: parts, levels, names -/
theorem lk_hd {f : Str} {v : V} {fs : List (Str × V)} : List.lookup f ((f, v) :: fs) = some v := by simp [List.lookup]
theorem lk_tl {f g : Str} {v : V} {fs : List (Str × V)} {r : Option V} (h : (f == g) = false) (k : List.lookup f fs = r) : List.lookup f ((g, v) :: fs) = r := by
  simp only [List.lookup, h]
  exact k
theorem put_tl {f g : Str} {v w : V} {fs : List (Str × V)} (h : decide (g = f) = false) : putF f v ((g, w) :: fs) = (g, w) :: putF f v fs := by rw [putF, if_neg (of_decide_eq_false h)]
theorem cls_two (T : Txt K mg Z) {t : Tm} (h : clsT Z t = Z.c_Two) : ∃ op a b, t = .two op a b := by
  cases t with
  | nm s => exact absurd h (difB_ne (i := 0) (j := 2) T.fact_dif rfl rfl (by decide))
  | vl s => exact absurd h (difB_ne (i := 1) (j := 2) T.fact_dif rfl rfl (by decide))
  | two op a b => exact ⟨_, _, _, rfl⟩
  | nt a => exact absurd h.symm (difB_ne (i := 2) (j := 3) T.fact_dif rfl rfl (by decide))
  | pk c a b => exact absurd h.symm (difB_ne (i := 2) (j := 4) T.fact_dif rfl rfl (by decide))
theorem cls_nt (T : Txt K mg Z) {t : Tm} (h : clsT Z t = Z.c_Not) : ∃ a, t = .nt a := by
  cases t with
  | nm s => exact absurd h (difB_ne (i := 0) (j := 3) T.fact_dif rfl rfl (by decide))
  | vl s => exact absurd h (difB_ne (i := 1) (j := 3) T.fact_dif rfl rfl (by decide))
  | two op a b => exact absurd h (difB_ne (i := 2) (j := 3) T.fact_dif rfl rfl (by decide))
  | nt a => exact ⟨_, rfl⟩
  | pk c a b => exact absurd h.symm (difB_ne (i := 3) (j := 4) T.fact_dif rfl rfl (by decide))
theorem cls_pk (T : Txt K mg Z) {t : Tm} (h : clsT Z t = Z.c_Pick) : ∃ c a b, t = .pk c a b := by
  cases t with
  | nm s => exact absurd h (difB_ne (i := 0) (j := 4) T.fact_dif rfl rfl (by decide))
  | vl s => exact absurd h (difB_ne (i := 1) (j := 4) T.fact_dif rfl rfl (by decide))
  | two op a b => exact absurd h (difB_ne (i := 2) (j := 4) T.fact_dif rfl rfl (by decide))
  | nt a => exact absurd h (difB_ne (i := 3) (j := 4) T.fact_dif rfl rfl (by decide))
  | pk c a b => exact ⟨_, _, _, rfl⟩
theorem cls_nm (T : Txt K mg Z) {t : Tm} (h : clsT Z t = Z.c_Name) : ∃ s, t = .nm s := by
  cases t with
  | nm s => exact ⟨_, rfl⟩
  | vl s => exact absurd h.symm (difB_ne (i := 0) (j := 1) T.fact_dif rfl rfl (by decide))
  | two op a b => exact absurd h.symm (difB_ne (i := 0) (j := 2) T.fact_dif rfl rfl (by decide))
  | nt a => exact absurd h.symm (difB_ne (i := 0) (j := 3) T.fact_dif rfl rfl (by decide))
  | pk c a b => exact absurd h.symm (difB_ne (i := 0) (j := 4) T.fact_dif rfl rfl (by decide))
theorem cls_vl (T : Txt K mg Z) {t : Tm} (h : clsT Z t = Z.c_Value) : ∃ s, t = .vl s := by
  cases t with
  | nm s => exact absurd h (difB_ne (i := 0) (j := 1) T.fact_dif rfl rfl (by decide))
  | vl s => exact ⟨_, rfl⟩
  | two op a b => exact absurd h.symm (difB_ne (i := 1) (j := 2) T.fact_dif rfl rfl (by decide))
  | nt a => exact absurd h.symm (difB_ne (i := 1) (j := 3) T.fact_dif rfl rfl (by decide))
  | pk c a b => exact absurd h.symm (difB_ne (i := 1) (j := 4) T.fact_dif rfl rfl (by decide))
def PartsAt (Z : Adr) (H : Hp) : List Tm → List V → Prop
  | [], [] => True
  | t :: ts, v :: vs => TermAt Z H t v ∧ PartsAt Z H ts vs
  | _, _ => False
theorem PartsAt.len {Z : Adr} {H : Hp} : ∀ {ts : List Tm} {vs : List V}, PartsAt Z H ts vs → vs.length = ts.length
  | [], [], _ => rfl
  | t :: ts, v :: vs, h => by rw [List.length_cons, List.length_cons, PartsAt.len h.2]
theorem PartsAt.at {Z : Adr} {H : Hp} : ∀ {ts : List Tm} {vs : List V} {i : Nat} {v : V}, PartsAt Z H ts vs → vs[i]? = some v → ∃ t, ts[i]? = some t ∧ TermAt Z H t v
  | [], [], i, v, _, h => by simp at h
  | t :: ts, w :: vs, 0, v, h, e => by
    have : w = v := by simpa using e
    subst this
    exact ⟨t, rfl, h.1⟩
  | t :: ts, w :: vs, i + 1, v, h, e => by
    rw [List.getElem?_cons_succ] at e
    obtain ⟨t2, h2, h3⟩ := PartsAt.at h.2 e
    exact ⟨t2, by rw [List.getElem?_cons_succ]; exact h2, h3⟩
theorem PartsAt.up {Z : Adr} {H H2 : Hp} (e : Ex H H2) : ∀ {ts : List Tm} {vs : List V}, PartsAt Z H ts vs → PartsAt Z H2 ts vs
  | [], [], _ => True.intro
  | t :: ts, v :: vs, h => ⟨h.1.up e, PartsAt.up e h.2⟩
def spk_parts (Z : Adr) (S : Tm → Prop) : Sp := fun vs H Q _ => ∃ t v, vs = [v] ∧ TermAt Z H t v ∧ S t ∧ ∀ ws p H2, H p = none → Ex H H2 → H2 p = some (.lst ws) → PartsAt Z H2 t.parts ws → Q (.ref p) H2
def spm_parts (Z : Adr) (C : Addr) : Sp := spk_parts Z fun t => clsT Z t = C
theorem ok_Term_parts (T : Txt K mg Z) : FnOk P w K mg base CX0 1 Z.f_Term_parts Z.fd_Term_parts ["self"] (spk_parts Z fun t => t.parts = []) := by
  refine T.F_Term_parts.ok sc_Term_parts (fun vs H Q E h => ?_) (fun cdv AA outer s H vs Q E hr h => ?_)
  · obtain ⟨t, v, rfl, _⟩ := h
    rfl
  · obtain ⟨t, v, rfl, ht, hp, k⟩ := h
    refine ⟨_, (pss_one (ps_ret (pe_lst pa_nil))), ?_⟩
    walk_at "ss"
    refine newL fun p H2 h0 e2 g2 => k _ p H2 h0 e2 g2 ?_
    rw [hp]
    exact True.intro
theorem ok_Two_parts (T : Txt K mg Z) : FnOk P w K mg base CX0 1 Z.f_Two_parts Z.fd_Two_parts ["self"] (spk_parts Z fun t => ∃ op a b, t = .two op a b) := by
  refine T.F_Two_parts.ok sc_Two_parts (fun vs H Q E h => ?_) (fun cdv AA outer s H vs Q E hr h => ?_)
  · obtain ⟨t, v, rfl, _⟩ := h
    rfl
  · obtain ⟨t, v, rfl, ht, ⟨op, x, y, rfl⟩, k⟩ := h
    have TX := tcB_ok T.x_Two
    obtain ⟨a, dx, v1, v2, rfl, ha, h1, h2⟩ := ht
    refine ⟨_, (pss_one (ps_ret (pe_lst (pa_cons (pe_fld (pv 0) (by rfl)) (pa_cons (pe_fld (pv 0) (by rfl)) pa_nil))))), ?_⟩
    walk_at "ss"
    refine ⟨_, _, _, _, _, rfl, ha, TX.cl, TX.no _ (by decide +kernel), lk_tl (by decide +kernel) lk_hd, ?_⟩
    walk_at "ss"
    refine ⟨_, _, _, _, _, rfl, ha, TX.cl, TX.no _ (by decide +kernel), lk_tl (by decide +kernel) (lk_tl (by decide +kernel) lk_hd), ?_⟩
    walk_at "ss"
    exact newL fun p H2 h0 e2 g2 => k _ p H2 h0 e2 g2 ⟨h1.up e2, h2.up e2, True.intro⟩
theorem ok_Not_parts (T : Txt K mg Z) : FnOk P w K mg base CX0 1 Z.f_Not_parts Z.fd_Not_parts ["self"] (spk_parts Z fun t => ∃ a, t = .nt a) := by
  refine T.F_Not_parts.ok sc_Not_parts (fun vs H Q E h => ?_) (fun cdv AA outer s H vs Q E hr h => ?_)
  · obtain ⟨t, v, rfl, _⟩ := h
    rfl
  · obtain ⟨t, v, rfl, ht, ⟨x, rfl⟩, k⟩ := h
    have TX := tcB_ok T.x_Not
    obtain ⟨a, dx, v1, rfl, ha, h1⟩ := ht
    refine ⟨_, (pss_one (ps_ret (pe_lst (pa_cons (pe_fld (pv 0) (by rfl)) pa_nil)))), ?_⟩
    walk_at "ss"
    refine ⟨_, _, _, _, _, rfl, ha, TX.cl, TX.no _ (by decide +kernel), lk_hd, ?_⟩
    walk_at "ss"
    exact newL fun p H2 h0 e2 g2 => k _ p H2 h0 e2 g2 ⟨h1.up e2, True.intro⟩
theorem ok_Pick_parts (T : Txt K mg Z) : FnOk P w K mg base CX0 1 Z.f_Pick_parts Z.fd_Pick_parts ["self"] (spk_parts Z fun t => ∃ c a b, t = .pk c a b) := by
  refine T.F_Pick_parts.ok sc_Pick_parts (fun vs H Q E h => ?_) (fun cdv AA outer s H vs Q E hr h => ?_)
  · obtain ⟨t, v, rfl, _⟩ := h
    rfl
  · obtain ⟨t, v, rfl, ht, ⟨c, x, y, rfl⟩, k⟩ := h
    have TX := tcB_ok T.x_Pick
    obtain ⟨a, dx, v0, v1, v2, rfl, ha, h0, h1, h2⟩ := ht
    refine ⟨_, (pss_one (ps_ret (pe_lst (pa_cons (pe_fld (pv 0) (by rfl)) (pa_cons (pe_fld (pv 0) (by rfl)) (pa_cons (pe_fld (pv 0) (by rfl)) pa_nil)))))), ?_⟩
    walk_at "ss"
    refine ⟨_, _, _, _, _, rfl, ha, TX.cl, TX.no _ (by decide +kernel), lk_hd, ?_⟩
    walk_at "ss"
    refine ⟨_, _, _, _, _, rfl, ha, TX.cl, TX.no _ (by decide +kernel), lk_tl (by decide +kernel) lk_hd, ?_⟩
    walk_at "ss"
    refine ⟨_, _, _, _, _, rfl, ha, TX.cl, TX.no _ (by decide +kernel), lk_tl (by decide +kernel) (lk_tl (by decide +kernel) lk_hd), ?_⟩
    walk_at "ss"
    exact newL fun p H2 hp e2 g2 => k _ p H2 hp e2 g2 ⟨h0.up e2, h1.up e2, h2.up e2, True.intro⟩
theorem gm_parts (T : Txt K mg Z) : ∀ C, MC Z C → MOk P w K mg base CX0 1 C "parts" (spm_parts Z C) := by
  rintro C (rfl | rfl | rfl | rfl | rfl)
  · exact ⟨(tcB_ok T.x_Name).cl, _, _, _, ⟨T.h_parts_Name, T.y_Term_parts, T.F_Term_parts.kp⟩, (ok_Term_parts T).imp fun vs H Q E ⟨t, v, e, h, hc, k⟩ => ⟨t, v, e, h, (by obtain ⟨s, rfl⟩ := cls_nm T hc; rfl), k⟩, T.b_Term_parts⟩
  · exact ⟨(tcB_ok T.x_Value).cl, _, _, _, ⟨T.h_parts_Value, T.y_Term_parts, T.F_Term_parts.kp⟩, (ok_Term_parts T).imp fun vs H Q E ⟨t, v, e, h, hc, k⟩ => ⟨t, v, e, h, (by obtain ⟨s, rfl⟩ := cls_vl T hc; rfl), k⟩, T.b_Term_parts⟩
  · exact ⟨(tcB_ok T.x_Two).cl, _, _, _, ⟨T.h_parts_Two, T.y_Two_parts, T.F_Two_parts.kp⟩, (ok_Two_parts T).imp fun vs H Q E ⟨t, v, e, h, hc, k⟩ => ⟨t, v, e, h, cls_two T hc, k⟩, T.b_Two_parts⟩
  · exact ⟨(tcB_ok T.x_Not).cl, _, _, _, ⟨T.h_parts_Not, T.y_Not_parts, T.F_Not_parts.kp⟩, (ok_Not_parts T).imp fun vs H Q E ⟨t, v, e, h, hc, k⟩ => ⟨t, v, e, h, cls_nt T hc, k⟩, T.b_Not_parts⟩
  · exact ⟨(tcB_ok T.x_Pick).cl, _, _, _, ⟨T.h_parts_Pick, T.y_Pick_parts, T.F_Pick_parts.kp⟩, (ok_Pick_parts T).imp fun vs H Q E ⟨t, v, e, h, hc, k⟩ => ⟨t, v, e, h, cls_pk T hc, k⟩, T.b_Pick_parts⟩
/-! levels -/
def spt_levels (Z : Adr) (n : Nat) : Sp := fun vs H Q _ => ∃ t v, vs = [v] ∧ TermAt Z H t v ∧ t.dep ≤ n ∧ RetV (.int (t.dep : Nat)) H Q
def spm_levels (Z : Adr) (n : Nat) (C : Addr) : Sp := spt_levels Z n
theorem ok_Term_levels (T : Txt K mg Z) {n : Nat} (GM_parts : ∀ C, MC Z C → MOk P w K mg base CX0 1 C "parts" (spm_parts Z C)) (GM_levels : ∀ C, MC Z C → MOk P w K mg base CX0 (n + 2) C "levels" (spm_levels Z n C)) : FnOk P w K mg base CX0 (n + 3) Z.f_Term_levels Z.fd_Term_levels ["self"] (spt_levels Z (n + 1)) := by
  refine T.F_Term_levels.ok sc_Term_levels (fun vs H Q E h => ?_) (fun cdv AA outer s H vs Q E hr h => ?_)
  · obtain ⟨t, v, rfl, _⟩ := h
    rfl
  · obtain ⟨t, v, rfl, ht, hd, k⟩ := h
    obtain ⟨a, dx, fs, rfl, ha, l1, l2, l3, l4⟩ := ht.cls
    refine ⟨_, (pss_one (ps_ret (pe_op op_add pe_int (pe_callBK (call_maxD hr) (by rfl) T.n_max (by decide +kernel) (pa_cons (pe_lc (own := [("part", 1)]) (g := (gName 1)) (tt := tYes) (te := (tMP (MC Z) "levels" (spm_levels Z n) E0 (tVar 1) tNil)) rfl sc_Term_levels.nd (pi_list (pe_methP0 (pv 0) GM_parts (hr.mono (by omega)) pass0)) (blkOk_by (own := [("part", 1)]) (N := N_Term_levels) (sc := defScope s_Term_levels) (by decide +kernel)) (fun _ _ _ _ _ => (pg_name (i := 1) sc_Term_levels.nd rfl (Or.inl rfl))) (fun _ _ _ _ _ => pts_nil) (fun _ _ _ _ _ => (pe_methP0 (pv 1) GM_levels (hr.mono (by omega)) pass0))) pa_nil) (pk_cons pe_int pk_nil))))), ?_⟩
    walk_at "ss"
    refine ⟨a, _, dx, fs, rfl, ha, clsT_MC Z t, l1, ?_⟩
    walk_at "ss"
    refine ⟨t, _, rfl, ht, rfl, fun ws p H2 hp e2 g2 hw => ?_⟩
    have hl := hw.len
    have hl3 := t.parts_len
    refine ⟨p, rfl, ⟨_, SqL.of g2⟩, lcL (fun i => (t.parts[i]?).bind fun q => some (.int (q.dep : Nat))) (SqL.of g2) (by omega) (fun i x hx => ?_) ?_⟩
    · obtain ⟨q, hq, hqx⟩ := hw.at hx
      intro H3 e3 R hR
      have hqx3 := hqx.up e3
      obtain ⟨a4, dx4, fs4, rfl, ha4, m1, m2, m3, m4⟩ := hqx3.cls
      walk_at "ss"
      refine ⟨a4, _, dx4, fs4, rfl, ha4, clsT_MC Z q, m3, ?_⟩
      walk_at "ss"
      have := Tm.dep_part (List.mem_of_getElem? hq)
      refine ⟨q, _, rfl, hqx3, by omega, fun H4 e4 => ?_⟩
      rw [hq] at hR
      exact hR _ e4
    rw [hl, fm_range, fm_some]
    intro p3 H3 hp3 e3 g3
    walk_at "ss"
    have em : t.parts.map (fun q => V.int (q.dep : Nat)) = (t.parts.map fun q => ((q.dep : Nat) : Int)).map V.int := by rw [List.map_map]; rfl
    rw [em] at g3
    have ed := t.dep_parts
    refine ⟨p3, _, _, rfl, rfl, SqL.of g3, fun e0 => ?_, fun y ys e0 => ?_⟩
    · walk_at "ss"
      rw [e0] at ed
      have e1 : (1 : Int) + 0 = (t.dep : Nat) := by rw [ed]; rfl
      rw [e1]
      exact k _ (e2.trans e3)
    · walk_at "ss"
      rw [e0] at ed
      have e1 : (1 : Int) + PySem.W.maxOf y ys = (t.dep : Nat) := by rw [ed]; rfl
      rw [e1]
      exact k _ (e2.trans e3)
theorem mok_none {n k : Nat} {C : Addr} {m : Str} {f : Addr} {fd : FuncData} {ps : List Str} {sp : Sp} (cl : Cls K C) (hm : Meth K C m f) (hb : Binds K fd ps []) (h : ∀ vs H Q E, ¬ sp vs H Q E) : MOk P w K mg base CX0 k C m sp :=
  ⟨cl, f, fd, ps, hm, ⟨fun vs H Q E q => (h _ _ _ _ q).elim, fun _ _ _ _ _ _ _ _ _ _ _ _ _ q => (h _ _ _ _ q).elim⟩, hb⟩
theorem gm_levels (T : Txt K mg Z) : ∀ n, ∀ C, MC Z C → MOk P w K mg base CX0 (n + 2) C "levels" (spm_levels Z n C) := by
  intro n
  induction n with
  | zero =>
    have hN : ∀ vs H Q E, ¬ spt_levels Z 0 vs H Q E := fun vs H Q E ⟨t, v, _, _, hd, _⟩ => by have := t.dep_pos; omega
    rintro C (rfl | rfl | rfl | rfl | rfl)
    · exact mok_none (n := 0) (tcB_ok T.x_Name).cl ⟨T.h_levels_Name, T.y_Term_levels, T.F_Term_levels.kp⟩ T.b_Term_levels hN
    · exact mok_none (n := 0) (tcB_ok T.x_Value).cl ⟨T.h_levels_Value, T.y_Term_levels, T.F_Term_levels.kp⟩ T.b_Term_levels hN
    · exact mok_none (n := 0) (tcB_ok T.x_Two).cl ⟨T.h_levels_Two, T.y_Term_levels, T.F_Term_levels.kp⟩ T.b_Term_levels hN
    · exact mok_none (n := 0) (tcB_ok T.x_Not).cl ⟨T.h_levels_Not, T.y_Term_levels, T.F_Term_levels.kp⟩ T.b_Term_levels hN
    · exact mok_none (n := 0) (tcB_ok T.x_Pick).cl ⟨T.h_levels_Pick, T.y_Term_levels, T.F_Term_levels.kp⟩ T.b_Term_levels hN
  | succ n ih =>
    have F := ok_Term_levels (P := P) (w := w) (base := base) T (gm_parts T) ih
    rintro C (rfl | rfl | rfl | rfl | rfl)
    · exact ⟨(tcB_ok T.x_Name).cl, _, _, _, ⟨T.h_levels_Name, T.y_Term_levels, T.F_Term_levels.kp⟩, F, T.b_Term_levels⟩
    · exact ⟨(tcB_ok T.x_Value).cl, _, _, _, ⟨T.h_levels_Value, T.y_Term_levels, T.F_Term_levels.kp⟩, F, T.b_Term_levels⟩
    · exact ⟨(tcB_ok T.x_Two).cl, _, _, _, ⟨T.h_levels_Two, T.y_Term_levels, T.F_Term_levels.kp⟩, F, T.b_Term_levels⟩
    · exact ⟨(tcB_ok T.x_Not).cl, _, _, _, ⟨T.h_levels_Not, T.y_Term_levels, T.F_Term_levels.kp⟩, F, T.b_Term_levels⟩
    · exact ⟨(tcB_ok T.x_Pick).cl, _, _, _, ⟨T.h_levels_Pick, T.y_Term_levels, T.F_Term_levels.kp⟩, F, T.b_Term_levels⟩

/-! names -/
theorem PartsAt.keep {Z : Adr} {H H2 : Hp} (e : InsK H H2) : ∀ {ts : List Tm} {vs : List V}, PartsAt Z H ts vs → PartsAt Z H2 ts vs
  | [], [], _ => True.intro
  | t :: ts, v :: vs, h => ⟨h.1.keep e, PartsAt.keep e h.2⟩
theorem InsK.lst {H : Hp} {f : Addr} {xs : List V} {o : HO} (h : H f = some (.lst xs)) : InsK H (upd H f o) := fun a C dx fs ha => by
  rw [upd_ne (ne_of ha h (fun z => by cases z))]
  exact ha
theorem addN_len (a b : List Str) : (addN a b).length ≤ a.length + b.length := by
  unfold addN
  rw [List.length_append]
  have := List.length_filter_le (fun n => !a.contains n) b
  omega
theorem Tm.names_len (t : Tm) : t.names.length ≤ 3 ^ t.dep := by
  induction t with
  | nm s => simp [Tm.names, Tm.dep]
  | vl v => simp [Tm.names, Tm.dep]
  | two op a b iha ihb =>
    have h1 := addN_len [] a.names
    have h2 := addN_len (addN [] a.names) b.names
    have p1 : 3 ^ a.dep ≤ 3 ^ max a.dep b.dep := Nat.pow_le_pow_right (by decide) (by omega)
    have p2 : 3 ^ b.dep ≤ 3 ^ max a.dep b.dep := Nat.pow_le_pow_right (by decide) (by omega)
    have e : 3 ^ (1 + max a.dep b.dep) = 3 * 3 ^ max a.dep b.dep := by rw [Nat.pow_add]
    show (addN (addN [] a.names) b.names).length ≤ 3 ^ (1 + max a.dep b.dep)
    rw [e]
    simp only [List.length_nil] at h1
    omega
  | nt a iha =>
    have h1 := addN_len [] a.names
    have e : 3 ^ (1 + a.dep) = 3 * 3 ^ a.dep := by rw [Nat.pow_add]
    show (addN [] a.names).length ≤ 3 ^ (1 + a.dep)
    rw [e]
    simp only [List.length_nil] at h1
    omega
  | pk c a b ihc iha ihb =>
    have h0 := addN_len [] c.names
    have h1 := addN_len (addN [] c.names) a.names
    have h2 := addN_len (addN (addN [] c.names) a.names) b.names
    have p0 : 3 ^ c.dep ≤ 3 ^ max (max c.dep a.dep) b.dep := Nat.pow_le_pow_right (by decide) (by omega)
    have p1 : 3 ^ a.dep ≤ 3 ^ max (max c.dep a.dep) b.dep := Nat.pow_le_pow_right (by decide) (by omega)
    have p2 : 3 ^ b.dep ≤ 3 ^ max (max c.dep a.dep) b.dep := Nat.pow_le_pow_right (by decide) (by omega)
    have e : 3 ^ (1 + max (max c.dep a.dep) b.dep) = 3 * 3 ^ max (max c.dep a.dep) b.dep := by rw [Nat.pow_add]
    show (addN (addN (addN [] c.names) a.names) b.names).length ≤ 3 ^ (1 + max (max c.dep a.dep) b.dep)
    rw [e]
    simp only [List.length_nil] at h0
    omega
theorem names_729 {t : Tm} (h : t.dep ≤ 6) : t.names.length ≤ 729 := by
  have h1 := t.names_len
  have h2 : 3 ^ t.dep ≤ 3 ^ 6 := Nat.pow_le_pow_right (by decide) h
  have e : (3 : Nat) ^ 6 = 729 := rfl
  omega
theorem inV_str {n : Str} : ∀ {F : List Str}, inV (.str n) (F.map V.str) = F.contains n
  | [] => rfl
  | a :: F => by
    have ih := inV_str (n := n) (F := F)
    unfold inV at ih ⊢
    rw [List.map_cons, List.any_cons, ih, List.contains_cons]
    show (a == n || F.contains n) = (n == a || F.contains n)
    rw [Bool.beq_comm]
theorem fm_new {F : List Str} : ∀ {l : List Str}, (l.map V.str).filterMap (fun x => if inV x (F.map V.str) then none else some x) = (l.filter fun n => !F.contains n).map V.str
  | [] => rfl
  | a :: l => by
    rw [List.map_cons, List.filterMap_cons, inV_str, List.filter_cons, fm_new]
    cases F.contains a <;> rfl
theorem flat_strs : ∀ {F : List Str}, (F.map V.str).all flatV = true
  | [] => rfl
  | a :: F => by rw [List.map_cons, List.all_cons, flat_strs] <;> rfl
def spt_names (Z : Adr) (n : Nat) (S : Tm → Prop) : Sp := fun vs H Q _ => ∃ t v, vs = [v] ∧ TermAt Z H t v ∧ S t ∧ t.dep ≤ n ∧ t.dep ≤ 6 ∧ RetL (t.names.map V.str) H Q
def spm_names (Z : Adr) (n : Nat) (C : Addr) : Sp := spt_names Z n fun t => clsT Z t = C
theorem ok_Name_names (T : Txt K mg Z) : FnOk P w K mg base CX0 1 Z.f_Name_names Z.fd_Name_names ["self"] (spt_names Z 1 fun t => ∃ s, t = .nm s) := by
  refine T.F_Name_names.ok sc_Name_names (fun vs H Q E h => ?_) (fun cdv AA outer s H vs Q E hr h => ?_)
  · obtain ⟨t, v, rfl, _⟩ := h
    rfl
  · obtain ⟨t, v, rfl, ht, ⟨s, rfl⟩, _, _, k⟩ := h
    have TX := tcB_ok T.x_Name
    obtain ⟨a, dx, rfl, ha⟩ := ht
    refine ⟨_, (pss_one (ps_ret (pe_lst (pa_cons (pe_fld (pv 0) (by rfl)) pa_nil)))), ?_⟩
    walk_at "ss"
    refine ⟨_, _, _, _, _, rfl, ha, TX.cl, TX.no _ (by decide +kernel), lk_hd, ?_⟩
    walk_at "ss"
    exact newL k
theorem ok_Term_names (T : Txt K mg Z) {n : Nat} (GM_parts : ∀ C, MC Z C → MOk P w K mg base CX0 1 C "parts" (spm_parts Z C)) (GM_names : ∀ C, MC Z C → MOk P w K mg base CX0 (n + 2) C "names" (spm_names Z n C)) : FnOk P w K mg base CX0 (n + 3) Z.f_Term_names Z.fd_Term_names ["self"] (spt_names Z (n + 1) fun t => ∀ s, t ≠ .nm s) := by
  refine T.F_Term_names.ok sc_Term_names (fun vs H Q E h => ?_) (fun cdv AA outer s H vs Q E hr h => ?_)
  · obtain ⟨t, v, rfl, _⟩ := h
    rfl
  · obtain ⟨t, v, rfl, ht, hS, hd, h6, k⟩ := h
    obtain ⟨a, dx, fs, rfl, ha, l1, l2, l3, l4⟩ := ht.cls
    refine ⟨_, (pss_cons (ps_set (i := 1) sc_Term_names.nd rfl (Or.inr rfl) (pe_lst pa_nil))
      (pss_cons (ps_for PassesOwn.never rfl (pi_list (pe_methP0 (pv 0) GM_parts (hr.mono (by omega)) pass0)) (pg_name (i := 2) sc_Term_names.nd rfl (Or.inl rfl)) (pss_one (ps_expr (pe_bm PySem.F.plainAttrs_list PySem.F.slot_list_extend PySem.F.type_list_extend mt_extend (pv 1) (pa_cons (pe_lc (own := [("name", 3)]) (g := (gName 3)) (tt := (tTest (tOp (rIn K true) (tVar 3) (tVar 1)))) (te := (tVar 3)) rfl sc_Term_names.nd (pi_list (pe_methP0 (pv 2) GM_names (hr.mono (by omega)) pass0)) (blkOk_by (own := [("name", 3)]) (N := N_Term_names) (sc := defScope s_Term_names) (by decide +kernel)) (fun _ _ _ _ _ => (pg_name (i := 3) sc_Term_names.nd rfl (Or.inl rfl))) (fun _ _ _ _ _ => (pts_one (pt_cmpR op_notIn_seq (pv 3) (pv 1) (by rfl)))) (fun _ _ _ _ _ => (pv 3))) pa_nil)))))
      (pss_one (ps_ret (pv 1))))), ?_⟩
    walk_at "ss"
    refine newL fun f H1 hf e1 g1 => ?_
    walk_at "ss"
    refine ⟨a, _, dx, fs, rfl, e1 _ _ ha, clsT_MC Z t, l1, ?_⟩
    walk_at "ss"
    refine ⟨t, _, rfl, ht.up e1, rfl, fun ws p H2 hp e2 g2 hw => ?_⟩
    have nfp : f ≠ p := ne_of_none g1 hp
    have hwl := hw.len
    refine ⟨p, rfl, ⟨_, SqL.of g2⟩, forL (xs := ws) (fun i σ' G => (∃ v2 v3, σ' = [some (.ref a), some (.ref f), v2, v3]) ∧ Ex H G ∧ G p = some (.lst ws) ∧ G f = some (.lst (((t.parts.take i).foldl (fun acc q => addN acc q.names) []).map V.str)) ∧ ((t.parts.take i).foldl (fun acc q => addN acc q.names) []).length ≤ i * 729 ∧ PartsAt Z G t.parts ws) ⟨⟨_, _, rfl⟩, e1.trans e2, g2, e2 _ _ g1, Nat.zero_le _, hw⟩ (fun i σ' G _ q => SqL.of q.2.2.1) ?_ ?_⟩
    · rintro i x σ' G hx ⟨⟨v2, v3, rfl⟩, eG, gp, gf, hbd, hw⟩
      obtain ⟨q, hq, hqx⟩ := hw.at hx
      have hi := (List.getElem?_eq_some_iff.mp hq).1
      have hl3 := t.parts_len
      have ef : (t.parts.take (i + 1)).foldl (fun acc q => addN acc q.names) [] = addN ((t.parts.take i).foldl (fun acc q => addN acc q.names) []) q.names := by
        rw [List.take_add_one, hq, List.foldl_append] <;> rfl
      generalize hF : (t.parts.take i).foldl (fun acc q => addN acc q.names) [] = F at gf ef hbd
      obtain ⟨a4, dx4, fs4, rfl, ha4, m1, m2, m3, m4⟩ := hqx.cls
      walk_at "ss"
      refine ⟨.inl ⟨rfl, _, SqL.of gf⟩, ?_⟩
      walk_at "ss"
      refine ⟨a4, _, dx4, fs4, rfl, ha4, clsT_MC Z q, m2, ?_⟩
      walk_at "ss"
      have hdp := Tm.dep_part (List.mem_of_getElem? hq)
      have hq7 := names_729 (t := q) (by omega)
      refine ⟨q, _, rfl, hqx, rfl, by omega, by omega, fun p5 H5 hp5 e5 g5 => ?_⟩
      refine ⟨p5, rfl, ⟨_, SqL.of g5⟩, lcLv (fun x => if inV x (F.map V.str) then none else some x) (SqL.of g5) (by rw [List.length_map]; omega) (fun x hx => ?_) ?_⟩
      · obtain ⟨s, hs, rfl⟩ := List.mem_map.mp hx
        intro H6 e6 R hR
        walk_at "ss"
        refine c_notin (.inl (SqL.of (e6 _ _ (e5 _ _ gf)))) rfl flat_strs ?_
        refine ⟨_, rfl, ?_⟩
        cases hin : inV (.str s) (F.map V.str) with
        | true =>
          rw [hin] at hR
          walk_at "ss"
          exact hR _ (Ex.refl _)
        | false =>
          rw [hin] at hR
          walk_at "ss"
          exact hR _ (Ex.refl _)
      rw [fm_new]
      intro p6 H6 hp6 e6 g6
      walk_at "ss"
      have gf6 := e6 _ _ (e5 _ _ gf)
      have hfl : (q.names.filter fun n => !F.contains n).length ≤ q.names.length := List.length_filter_le _ _
      refine ⟨f, p6, _, _, rfl, rfl, gf6, g6, Evl.sz_of (by rw [List.length_map, List.length_map]; omega), ?_⟩
      walk_at "ss"
      refine ⟨⟨_, _, rfl⟩, Ex.mut (eG.trans (e5.trans e6)) hf, by rw [upd_ne nfp.symm]; exact e6 _ _ (e5 _ _ gp), ?_, ?_, (hw.up (e5.trans e6)).keep (InsK.lst gf6)⟩
      · rw [upd_same, ef, ← List.map_append] <;> rfl
      · rw [ef]
        have := addN_len F q.names
        rw [Nat.succ_mul]
        omega
    · rintro σ' G ⟨⟨v2, v3, rfl⟩, eG, gp, gf, hbd, hw⟩
      walk_at "ss"
      rw [hwl, List.take_length, ← Tm.names_parts t hS] at gf
      exact k f G hf eG gf
theorem gm_names (T : Txt K mg Z) : ∀ n, ∀ C, MC Z C → MOk P w K mg base CX0 (n + 2) C "names" (spm_names Z n C) := by
  intro n
  induction n with
  | zero =>
    have hN : ∀ C vs H Q E, ¬ spm_names Z 0 C vs H Q E := fun C vs H Q E ⟨t, v, _, _, _, hd, _⟩ => by have := t.dep_pos; omega
    rintro C (rfl | rfl | rfl | rfl | rfl)
    · exact mok_none (n := 0) (tcB_ok T.x_Name).cl ⟨T.h_names_Name, T.y_Name_names, T.F_Name_names.kp⟩ T.b_Name_names (hN _)
    · exact mok_none (n := 0) (tcB_ok T.x_Value).cl ⟨T.h_names_Value, T.y_Term_names, T.F_Term_names.kp⟩ T.b_Term_names (hN _)
    · exact mok_none (n := 0) (tcB_ok T.x_Two).cl ⟨T.h_names_Two, T.y_Term_names, T.F_Term_names.kp⟩ T.b_Term_names (hN _)
    · exact mok_none (n := 0) (tcB_ok T.x_Not).cl ⟨T.h_names_Not, T.y_Term_names, T.F_Term_names.kp⟩ T.b_Term_names (hN _)
    · exact mok_none (n := 0) (tcB_ok T.x_Pick).cl ⟨T.h_names_Pick, T.y_Term_names, T.F_Term_names.kp⟩ T.b_Term_names (hN _)
  | succ n ih =>
    have F := ok_Term_names (P := P) (w := w) (base := base) T (gm_parts T) ih
    have F1 := (ok_Name_names (P := P) (w := w) (base := base) T).mono (show 1 ≤ n + 1 + 2 by omega)
    rintro C (rfl | rfl | rfl | rfl | rfl)
    · exact ⟨(tcB_ok T.x_Name).cl, _, _, _, ⟨T.h_names_Name, T.y_Name_names, T.F_Name_names.kp⟩, F1.imp fun vs H Q E ⟨t, v, e, h, hc, hd, h6, k⟩ => ⟨t, v, e, h, cls_nm T hc, (by obtain ⟨s, rfl⟩ := cls_nm T hc; exact Nat.le_refl _), h6, k⟩, T.b_Name_names⟩
    · exact ⟨(tcB_ok T.x_Value).cl, _, _, _, ⟨T.h_names_Value, T.y_Term_names, T.F_Term_names.kp⟩, F.imp fun vs H Q E ⟨t, v, e, h, hc, hd, h6, k⟩ => ⟨t, v, e, h, (by obtain ⟨s, rfl⟩ := cls_vl T hc; exact fun _ z => by cases z), hd, h6, k⟩, T.b_Term_names⟩
    · exact ⟨(tcB_ok T.x_Two).cl, _, _, _, ⟨T.h_names_Two, T.y_Term_names, T.F_Term_names.kp⟩, F.imp fun vs H Q E ⟨t, v, e, h, hc, hd, h6, k⟩ => ⟨t, v, e, h, (by obtain ⟨_, _, _, rfl⟩ := cls_two T hc; exact fun _ z => by cases z), hd, h6, k⟩, T.b_Term_names⟩
    · exact ⟨(tcB_ok T.x_Not).cl, _, _, _, ⟨T.h_names_Not, T.y_Term_names, T.F_Term_names.kp⟩, F.imp fun vs H Q E ⟨t, v, e, h, hc, hd, h6, k⟩ => ⟨t, v, e, h, (by obtain ⟨_, rfl⟩ := cls_nt T hc; exact fun _ z => by cases z), hd, h6, k⟩, T.b_Term_names⟩
    · exact ⟨(tcB_ok T.x_Pick).cl, _, _, _, ⟨T.h_names_Pick, T.y_Term_names, T.F_Term_names.kp⟩, F.imp fun vs H Q E ⟨t, v, e, h, hc, hd, h6, k⟩ => ⟨t, v, e, h, (by obtain ⟨_, _, _, rfl⟩ := cls_pk T hc; exact fun _ z => by cases z), hd, h6, k⟩, T.b_Term_names⟩

/-! ### what a term tells -/
def ToldAt (H : Hp) : Tm → V → Prop
  | .nm s, v => ∃ a, v = .ref a ∧ H a = some (.tup [.str "name", .str s])
  | .vl x, v => ∃ a, v = .ref a ∧ H a = some (.tup [.str "value", x])
  | .two op p q, v => ∃ a v1 v2, v = .ref a ∧ H a = some (.tup [.str "two", .str op, v1, v2]) ∧ ToldAt H p v1 ∧ ToldAt H q v2
  | .nt p, v => ∃ a v1, v = .ref a ∧ H a = some (.tup [.str "not", v1]) ∧ ToldAt H p v1
  | .pk c p q, v => ∃ a v0 v1 v2, v = .ref a ∧ H a = some (.tup [.str "pick", v0, v1, v2]) ∧ ToldAt H c v0 ∧ ToldAt H p v1 ∧ ToldAt H q v2
def TupK (H H2 : Hp) : Prop := ∀ a xs, H a = some (.tup xs) → H2 a = some (.tup xs)
theorem ToldAt.keep {H H2 : Hp} (e : TupK H H2) : ∀ {t : Tm} {v : V}, ToldAt H t v → ToldAt H2 t v := by
  intro t
  induction t with
  | nm s => rintro v ⟨a, h1, h2⟩; exact ⟨a, h1, e _ _ h2⟩
  | vl x => rintro v ⟨a, h1, h2⟩; exact ⟨a, h1, e _ _ h2⟩
  | two op p q ihp ihq => rintro v ⟨a, v1, v2, h1, h2, h3, h4⟩; exact ⟨a, v1, v2, h1, e _ _ h2, ihp h3, ihq h4⟩
  | nt p ihp => rintro v ⟨a, v1, h1, h2, h3⟩; exact ⟨a, v1, h1, e _ _ h2, ihp h3⟩
  | pk c p q ihc ihp ihq => rintro v ⟨a, v0, v1, v2, h1, h2, h3, h4, h5⟩; exact ⟨a, v0, v1, v2, h1, e _ _ h2, ihc h3, ihp h4, ihq h5⟩
theorem ToldAt.up {H H2 : Hp} {t : Tm} {v : V} (h : ToldAt H t v) (e : Ex H H2) : ToldAt H2 t v := h.keep fun a xs q => e _ _ q
theorem ToldAt.upB {H H2 : Hp} {t : Tm} {v : V} {b : Addr} (h : ToldAt H t v) (e : ExB b H H2) (hB : BoxAt H b) : ToldAt H2 t v := h.keep fun a xs q => e _ _ (box_ne hB q (fun _ _ _ z => by cases z)) q
def spt_told (Z : Adr) (n : Nat) (S : Tm → Prop) : Sp := fun vs H Q _ => ∃ t v, vs = [v] ∧ TermAt Z H t v ∧ S t ∧ t.dep ≤ n ∧ ∀ u H2, Ex H H2 → ToldAt H2 t u → Q u H2
def spm_told (Z : Adr) (n : Nat) (C : Addr) : Sp := spt_told Z n fun t => clsT Z t = C
theorem ok_Name_told (T : Txt K mg Z) : FnOk P w K mg base CX0 1 Z.f_Name_told Z.fd_Name_told ["self"] (spt_told Z 1 fun t => ∃ s, t = .nm s) := by
  refine T.F_Name_told.ok sc_Name_told (fun vs H Q E h => ?_) (fun cdv AA outer s H vs Q E hr h => ?_)
  · obtain ⟨t, v, rfl, _⟩ := h
    rfl
  · obtain ⟨t, v, rfl, ht, ⟨s, rfl⟩, _, k⟩ := h
    have TX := tcB_ok T.x_Name
    obtain ⟨a, dx, rfl, ha⟩ := ht
    refine ⟨_, (pss_one (ps_ret (pe_tup (pa_cons pe_str (pa_cons (pe_fld (pv 0) (by rfl)) pa_nil))))), ?_⟩
    walk_at "ss"
    refine ⟨_, _, _, _, _, rfl, ha, TX.cl, TX.no _ (by decide +kernel), lk_hd, ?_⟩
    walk_at "ss"
    exact newT fun p H2 hp e2 g2 => k _ _ e2 ⟨p, rfl, g2⟩
theorem ok_Value_told (T : Txt K mg Z) : FnOk P w K mg base CX0 1 Z.f_Value_told Z.fd_Value_told ["self"] (spt_told Z 1 fun t => ∃ s, t = .vl s) := by
  refine T.F_Value_told.ok sc_Value_told (fun vs H Q E h => ?_) (fun cdv AA outer s H vs Q E hr h => ?_)
  · obtain ⟨t, v, rfl, _⟩ := h
    rfl
  · obtain ⟨t, v, rfl, ht, ⟨s, rfl⟩, _, k⟩ := h
    have TX := tcB_ok T.x_Value
    obtain ⟨a, dx, rfl, ha⟩ := ht
    refine ⟨_, (pss_one (ps_ret (pe_tup (pa_cons pe_str (pa_cons (pe_fld (pv 0) (by rfl)) pa_nil))))), ?_⟩
    walk_at "ss"
    refine ⟨_, _, _, _, _, rfl, ha, TX.cl, TX.no _ (by decide +kernel), lk_hd, ?_⟩
    walk_at "ss"
    exact newT fun p H2 hp e2 g2 => k _ _ e2 ⟨p, rfl, g2⟩
theorem ok_Two_told (T : Txt K mg Z) {n : Nat} (GM_told : ∀ C, MC Z C → MOk P w K mg base CX0 (n + 2) C "told" (spm_told Z n C)) : FnOk P w K mg base CX0 (n + 3) Z.f_Two_told Z.fd_Two_told ["self"] (spt_told Z (n + 1) fun t => ∃ op a b, t = .two op a b) := by
  refine T.F_Two_told.ok sc_Two_told (fun vs H Q E h => ?_) (fun cdv AA outer s H vs Q E hr h => ?_)
  · obtain ⟨t, v, rfl, _⟩ := h
    rfl
  · obtain ⟨t, v, rfl, ht, ⟨op, x, y, rfl⟩, hd, k⟩ := h
    have TX := tcB_ok T.x_Two
    obtain ⟨a, dx, v1, v2, rfl, ha, h1, h2⟩ := ht
    simp only [Tm.dep] at hd
    refine ⟨_, (pss_one (ps_ret (pe_tup (pa_cons pe_str (pa_cons (pe_fld (pv 0) (by rfl)) (pa_cons (pe_methP0 (pe_fld (pv 0) (by rfl)) GM_told (hr.mono (by omega)) pass0) (pa_cons (pe_methP0 (pe_fld (pv 0) (by rfl)) GM_told (hr.mono (by omega)) pass0) pa_nil))))))), ?_⟩
    walk_at "ss"
    refine ⟨_, _, _, _, _, rfl, ha, TX.cl, TX.no _ (by decide +kernel), lk_hd, ?_⟩
    walk_at "ss"
    refine ⟨_, _, _, _, _, rfl, ha, TX.cl, TX.no _ (by decide +kernel), lk_tl (by decide +kernel) lk_hd, ?_⟩
    obtain ⟨a3, dx3, fs3, rfl, ha3, m1, m2, m3, m4⟩ := h1.cls
    refine ⟨a3, _, dx3, fs3, rfl, ha3, clsT_MC Z x, m4, ?_⟩
    walk_at "ss"
    refine ⟨x, _, rfl, h1, rfl, by omega, fun u1 H1 e1 t1 => ?_⟩
    walk_at "ss"
    refine ⟨_, _, _, _, _, rfl, e1 _ _ ha, TX.cl, TX.no _ (by decide +kernel), lk_tl (by decide +kernel) (lk_tl (by decide +kernel) lk_hd), ?_⟩
    have h2' := h2.up e1
    obtain ⟨a4, dx4, fs4, rfl, ha4, m1, m2, m3, m4⟩ := h2'.cls
    refine ⟨a4, _, dx4, fs4, rfl, ha4, clsT_MC Z y, m4, ?_⟩
    walk_at "ss"
    refine ⟨y, _, rfl, h2', rfl, by omega, fun u2 H2 e2 t2 => ?_⟩
    walk_at "ss"
    exact newT fun p H3 hp e3 g3 => k _ _ (e1.trans (e2.trans e3)) ⟨p, _, _, rfl, g3, t1.up (e2.trans e3), t2.up e3⟩
theorem ok_Not_told (T : Txt K mg Z) {n : Nat} (GM_told : ∀ C, MC Z C → MOk P w K mg base CX0 (n + 2) C "told" (spm_told Z n C)) : FnOk P w K mg base CX0 (n + 3) Z.f_Not_told Z.fd_Not_told ["self"] (spt_told Z (n + 1) fun t => ∃ a, t = .nt a) := by
  refine T.F_Not_told.ok sc_Not_told (fun vs H Q E h => ?_) (fun cdv AA outer s H vs Q E hr h => ?_)
  · obtain ⟨t, v, rfl, _⟩ := h
    rfl
  · obtain ⟨t, v, rfl, ht, ⟨x, rfl⟩, hd, k⟩ := h
    have TX := tcB_ok T.x_Not
    obtain ⟨a, dx, v1, rfl, ha, h1⟩ := ht
    simp only [Tm.dep] at hd
    refine ⟨_, (pss_one (ps_ret (pe_tup (pa_cons pe_str (pa_cons (pe_methP0 (pe_fld (pv 0) (by rfl)) GM_told (hr.mono (by omega)) pass0) pa_nil))))), ?_⟩
    walk_at "ss"
    refine ⟨_, _, _, _, _, rfl, ha, TX.cl, TX.no _ (by decide +kernel), lk_hd, ?_⟩
    obtain ⟨a3, dx3, fs3, rfl, ha3, m1, m2, m3, m4⟩ := h1.cls
    refine ⟨a3, _, dx3, fs3, rfl, ha3, clsT_MC Z x, m4, ?_⟩
    walk_at "ss"
    refine ⟨x, _, rfl, h1, rfl, by omega, fun u1 H1 e1 t1 => ?_⟩
    walk_at "ss"
    exact newT fun p H3 hp e3 g3 => k _ _ (e1.trans e3) ⟨p, _, rfl, g3, t1.up e3⟩
theorem ok_Pick_told (T : Txt K mg Z) {n : Nat} (GM_told : ∀ C, MC Z C → MOk P w K mg base CX0 (n + 2) C "told" (spm_told Z n C)) : FnOk P w K mg base CX0 (n + 3) Z.f_Pick_told Z.fd_Pick_told ["self"] (spt_told Z (n + 1) fun t => ∃ c a b, t = .pk c a b) := by
  refine T.F_Pick_told.ok sc_Pick_told (fun vs H Q E h => ?_) (fun cdv AA outer s H vs Q E hr h => ?_)
  · obtain ⟨t, v, rfl, _⟩ := h
    rfl
  · obtain ⟨t, v, rfl, ht, ⟨c, x, y, rfl⟩, hd, k⟩ := h
    have TX := tcB_ok T.x_Pick
    obtain ⟨a, dx, v0, v1, v2, rfl, ha, h0, h1, h2⟩ := ht
    simp only [Tm.dep] at hd
    refine ⟨_, (pss_one (ps_ret (pe_tup (pa_cons pe_str (pa_cons (pe_methP0 (pe_fld (pv 0) (by rfl)) GM_told (hr.mono (by omega)) pass0) (pa_cons (pe_methP0 (pe_fld (pv 0) (by rfl)) GM_told (hr.mono (by omega)) pass0) (pa_cons (pe_methP0 (pe_fld (pv 0) (by rfl)) GM_told (hr.mono (by omega)) pass0) pa_nil))))))), ?_⟩
    walk_at "ss"
    refine ⟨_, _, _, _, _, rfl, ha, TX.cl, TX.no _ (by decide +kernel), lk_hd, ?_⟩
    obtain ⟨a3, dx3, fs3, rfl, ha3, m1, m2, m3, m4⟩ := h0.cls
    refine ⟨a3, _, dx3, fs3, rfl, ha3, clsT_MC Z c, m4, ?_⟩
    walk_at "ss"
    refine ⟨c, _, rfl, h0, rfl, by omega, fun u0 H0 e0 t0 => ?_⟩
    walk_at "ss"
    refine ⟨_, _, _, _, _, rfl, e0 _ _ ha, TX.cl, TX.no _ (by decide +kernel), lk_tl (by decide +kernel) lk_hd, ?_⟩
    have h1' := h1.up e0
    obtain ⟨a4, dx4, fs4, rfl, ha4, m1, m2, m3, m4⟩ := h1'.cls
    refine ⟨a4, _, dx4, fs4, rfl, ha4, clsT_MC Z x, m4, ?_⟩
    walk_at "ss"
    refine ⟨x, _, rfl, h1', rfl, by omega, fun u1 H1 e1 t1 => ?_⟩
    walk_at "ss"
    refine ⟨_, _, _, _, _, rfl, e1 _ _ (e0 _ _ ha), TX.cl, TX.no _ (by decide +kernel), lk_tl (by decide +kernel) (lk_tl (by decide +kernel) lk_hd), ?_⟩
    have h2' := h2.up (e0.trans e1)
    obtain ⟨a5, dx5, fs5, rfl, ha5, m1, m2, m3, m4⟩ := h2'.cls
    refine ⟨a5, _, dx5, fs5, rfl, ha5, clsT_MC Z y, m4, ?_⟩
    walk_at "ss"
    refine ⟨y, _, rfl, h2', rfl, by omega, fun u2 H2 e2 t2 => ?_⟩
    walk_at "ss"
    exact newT fun p H3 hp e3 g3 => k _ _ (e0.trans (e1.trans (e2.trans e3))) ⟨p, _, _, _, rfl, g3, t0.up (e1.trans (e2.trans e3)), t1.up (e2.trans e3), t2.up e3⟩
theorem gm_told (T : Txt K mg Z) : ∀ n, ∀ C, MC Z C → MOk P w K mg base CX0 (n + 2) C "told" (spm_told Z n C) := by
  intro n
  induction n with
  | zero =>
    have hN : ∀ C vs H Q E, ¬ spm_told Z 0 C vs H Q E := fun C vs H Q E ⟨t, v, _, _, _, hd, _⟩ => by have := t.dep_pos; omega
    rintro C (rfl | rfl | rfl | rfl | rfl)
    · exact mok_none (n := 0) (tcB_ok T.x_Name).cl ⟨T.h_told_Name, T.y_Name_told, T.F_Name_told.kp⟩ T.b_Name_told (hN _)
    · exact mok_none (n := 0) (tcB_ok T.x_Value).cl ⟨T.h_told_Value, T.y_Value_told, T.F_Value_told.kp⟩ T.b_Value_told (hN _)
    · exact mok_none (n := 0) (tcB_ok T.x_Two).cl ⟨T.h_told_Two, T.y_Two_told, T.F_Two_told.kp⟩ T.b_Two_told (hN _)
    · exact mok_none (n := 0) (tcB_ok T.x_Not).cl ⟨T.h_told_Not, T.y_Not_told, T.F_Not_told.kp⟩ T.b_Not_told (hN _)
    · exact mok_none (n := 0) (tcB_ok T.x_Pick).cl ⟨T.h_told_Pick, T.y_Pick_told, T.F_Pick_told.kp⟩ T.b_Pick_told (hN _)
  | succ n ih =>
    have F1 := (ok_Name_told (P := P) (w := w) (base := base) T).mono (show 1 ≤ n + 1 + 2 by omega)
    have F2 := (ok_Value_told (P := P) (w := w) (base := base) T).mono (show 1 ≤ n + 1 + 2 by omega)
    have F3 := ok_Two_told (P := P) (w := w) (base := base) T ih
    have F4 := ok_Not_told (P := P) (w := w) (base := base) T ih
    have F5 := ok_Pick_told (P := P) (w := w) (base := base) T ih
    rintro C (rfl | rfl | rfl | rfl | rfl)
    · exact ⟨(tcB_ok T.x_Name).cl, _, _, _, ⟨T.h_told_Name, T.y_Name_told, T.F_Name_told.kp⟩, F1.imp fun vs H Q E ⟨t, v, e, h, hc, hd, k⟩ => ⟨t, v, e, h, cls_nm T hc, (by obtain ⟨s, rfl⟩ := cls_nm T hc; exact Nat.le_refl _), k⟩, T.b_Name_told⟩
    · exact ⟨(tcB_ok T.x_Value).cl, _, _, _, ⟨T.h_told_Value, T.y_Value_told, T.F_Value_told.kp⟩, F2.imp fun vs H Q E ⟨t, v, e, h, hc, hd, k⟩ => ⟨t, v, e, h, cls_vl T hc, (by obtain ⟨s, rfl⟩ := cls_vl T hc; exact Nat.le_refl _), k⟩, T.b_Value_told⟩
    · exact ⟨(tcB_ok T.x_Two).cl, _, _, _, ⟨T.h_told_Two, T.y_Two_told, T.F_Two_told.kp⟩, F3.imp fun vs H Q E ⟨t, v, e, h, hc, hd, k⟩ => ⟨t, v, e, h, cls_two T hc, hd, k⟩, T.b_Two_told⟩
    · exact ⟨(tcB_ok T.x_Not).cl, _, _, _, ⟨T.h_told_Not, T.y_Not_told, T.F_Not_told.kp⟩, F4.imp fun vs H Q E ⟨t, v, e, h, hc, hd, k⟩ => ⟨t, v, e, h, cls_nt T hc, hd, k⟩, T.b_Not_told⟩
    · exact ⟨(tcB_ok T.x_Pick).cl, _, _, _, ⟨T.h_told_Pick, T.y_Pick_told, T.F_Pick_told.kp⟩, F5.imp fun vs H Q E ⟨t, v, e, h, hc, hd, k⟩ => ⟨t, v, e, h, cls_pk T hc, hd, k⟩, T.b_Pick_told⟩

/-! ### terms made -/
def opsW : List Str := ["+", "-", "*", "/", "mod", "<", "=", "&", "|"]
def opsV2 : List V := opsW.map V.str
def sp_ops_told : Sp := fun vs H Q _ => vs = [] ∧ RetL opsV2 H Q
theorem ok_ops_told (T : Txt K mg Z) : FnOk P w K mg base CX0 1 Z.f_ops_told Z.fd_ops_told [] sp_ops_told := by
  refine T.F_ops_told.ok sc_ops_told (fun vs H Q E h => ?_) (fun cdv AA outer s H vs Q E hr h => ?_)
  · obtain ⟨rfl, _⟩ := h
    rfl
  · obtain ⟨rfl, k⟩ := h
    refine ⟨_, (pss_one (ps_ret (pe_callTy call_list_of (by rfl) T.n_list (by decide +kernel) (pa_cons (pe_gcst rfl T.c_OPS) pa_nil)))), ?_⟩
    walk_at "ss"
    refine ⟨_, _, rfl, .inr (T.t_OPS _), fun l hl => ?_⟩
    exact k l _ hl (Ex.new hl) upd_same
theorem subB_ok {C c : Addr} (h : subB K C c = true) : PySem.W.kitOne K (.ref C) (.ref c) = some true ∧ PySem.W.mroIn K C (.type "object") = some true ∧ PySem.W.findIn K (.ref C) "__eq__" = some (some (.builtin "object.__eq__")) := by
  unfold subB at h
  simp only [Bool.and_eq_true, decide_eq_true_eq] at h
  exact h
theorem TermAt.ty (T : Txt K mg Z) {H : Hp} {t : Tm} {v : V} (h : TermAt Z H t v) : TyX K H v (.ref (clsT Z t)) ∧ subB K (clsT Z t) Z.c_Term = true := by
  obtain ⟨a, dx, fs, rfl, ha, _⟩ := h.cls
  cases t with
  | nm s => exact ⟨(tcB_ok T.x_Name).ty ha, T.fact_is_Name⟩
  | vl s => exact ⟨(tcB_ok T.x_Value).ty ha, T.fact_is_Value⟩
  | two op x y => exact ⟨(tcB_ok T.x_Two).ty ha, T.fact_is_Two⟩
  | nt x => exact ⟨(tcB_ok T.x_Not).ty ha, T.fact_is_Not⟩
  | pk c x y => exact ⟨(tcB_ok T.x_Pick).ty ha, T.fact_is_Pick⟩
theorem is_term (T : Txt K mg Z) {H : Hp} {t : Tm} {v : V} {Q : VK} (h : TermAt Z H t v) (q : Q (.bl true) H) : rIsi K [v, .ref Z.c_Term] H Q :=
  ⟨v, .ref Z.c_Term, _, _, true, rfl, .own _, (h.ty T).1, (subB_ok (h.ty T).2).1, q⟩
theorem TermAt.noneOr (T : Txt K mg Z) {H : Hp} {t : Tm} {v : V} (h : TermAt Z H t v) : NoneOr K H v := by
  obtain ⟨a, dx, fs, rfl, ha, _⟩ := h.cls
  exact .inr ⟨a, _, dx, fs, rfl, ha, (subB_ok (h.ty T).2).2.1, (subB_ok (h.ty T).2).2.2⟩
def sp_need_term (Z : Adr) : Sp := fun vs H Q _ => ∃ t v, vs = [v] ∧ TermAt Z H t v ∧ t.dep ≤ 4 ∧ RetV v H Q
theorem ok_need_term (T : Txt K mg Z) : FnOk P w K mg base CX0 8 Z.f_need_term Z.fd_need_term ["thing"] (sp_need_term Z) := by
  refine T.F_need_term.ok sc_need_term (fun vs H Q E h => ?_) (fun cdv AA outer s H vs Q E hr h => ?_)
  · obtain ⟨t, v, rfl, _⟩ := h
    rfl
  · obtain ⟨t, v, rfl, ht, hd, k⟩ := h
    have GM_levels := gm_levels (P := P) (w := w) (base := base) T 4
    refine ⟨_, (pss_cons (ps_if (PW.pt (pw_or (pt_not (pt_val (pe_callB call_isi (by rfl) T.n_isinstance (by decide +kernel) (pa_cons (pv 0) (pa_cons (pe_gcst (v := .ref Z.c_Term) rfl ⟨_, T.m_Term, rfl⟩) pa_nil))))) (pw_or1 (pt_cmpR op_ge (pe_methP0 (pv 0) GM_levels (hr.mono (by omega)) pass0) (pe_gcst rfl T.c_MOST_LEVELS) (nomark _))))) (pss_one ps_never) pss_nil)
      (pss_one (ps_ret (pv 0)))), ?_⟩
    walk_at "ss"
    refine is_term T ht ?_
    walk_at "ss"
    obtain ⟨a, dx, fs, rfl, ha, l1, l2, l3, l4⟩ := ht.cls
    refine ⟨a, _, dx, fs, rfl, ha, clsT_MC Z t, l3, ?_⟩
    walk_at "ss"
    refine ⟨t, _, rfl, ht, hd, fun H1 e1 => ?_⟩
    walk_at "ss"
    refine if_ff (decide_eq_false (by omega)) ?_
    walk_at "ss"
    exact k _ e1
def isVal : V → Bool
  | .bl _ => true
  | .int i => decide (-1000000000 ≤ i) && decide (i ≤ 1000000000)
  | _ => false
theorem is_val {v : V} (h : isVal v = true) {H : Hp} {Q : VK} {E : XK} (q : Q (.bl true) H) : sp_is_value K [v] H Q E := by
  cases v with
  | bl b => exact ⟨_, rfl, .inr (.inl ⟨_, rfl, q⟩)⟩
  | int i =>
    refine ⟨_, rfl, .inl ⟨_, rfl, ?_⟩⟩
    rw [show (decide (-1000000000 ≤ i) && decide (i ≤ 1000000000)) = true from h]
    exact q
  | _ => exact absurd h Bool.false_ne_true
def sp_Name_init (Z : Adr) : Sp := fun vs H Q _ => ∃ x dx s H0, vs = [.ref x, .str s] ∧ H x = some (.ins Z.c_Name dx []) ∧ H0 x = none ∧ Ex H0 H ∧ isPointed s = true ∧ s.length ≤ 1000 ∧ ∀ H2, Ex H0 H2 → H2 x = some (.ins Z.c_Name dx [("name", .str s)]) → Q .non H2
def sp_Value_init (Z : Adr) : Sp := fun vs H Q _ => ∃ x dx v H0, vs = [.ref x, v] ∧ H x = some (.ins Z.c_Value dx []) ∧ H0 x = none ∧ Ex H0 H ∧ isVal v = true ∧ ∀ H2, Ex H0 H2 → H2 x = some (.ins Z.c_Value dx [("amount", v)]) → Q .non H2
def sp_Two_init (Z : Adr) : Sp := fun vs H Q _ => ∃ x dx op p q v1 v2 H0, vs = [.ref x, .str op, v1, v2] ∧ H x = some (.ins Z.c_Two dx []) ∧ H0 x = none ∧ Ex H0 H ∧ op ∈ opsW ∧ TermAt Z H0 p v1 ∧ TermAt Z H0 q v2 ∧ p.dep ≤ 4 ∧ q.dep ≤ 4 ∧
  ∀ H2, Ex H0 H2 → H2 x = some (.ins Z.c_Two dx [("op", .str op), ("one", v1), ("second", v2)]) → Q .non H2
def sp_Not_init (Z : Adr) : Sp := fun vs H Q _ => ∃ x dx p v1 H0, vs = [.ref x, v1] ∧ H x = some (.ins Z.c_Not dx []) ∧ H0 x = none ∧ Ex H0 H ∧ TermAt Z H0 p v1 ∧ p.dep ≤ 4 ∧ ∀ H2, Ex H0 H2 → H2 x = some (.ins Z.c_Not dx [("one", v1)]) → Q .non H2
def sp_Pick_init (Z : Adr) : Sp := fun vs H Q _ => ∃ x dx c p q v0 v1 v2 H0, vs = [.ref x, v0, v1, v2] ∧ H x = some (.ins Z.c_Pick dx []) ∧ H0 x = none ∧ Ex H0 H ∧ TermAt Z H0 c v0 ∧ TermAt Z H0 p v1 ∧ TermAt Z H0 q v2 ∧ c.dep ≤ 4 ∧ p.dep ≤ 4 ∧ q.dep ≤ 4 ∧
  ∀ H2, Ex H0 H2 → H2 x = some (.ins Z.c_Pick dx [("by", v0), ("one", v1), ("second", v2)]) → Q .non H2
theorem ok_Name_init (T : Txt K mg Z) : FnOk P w K mg base CX0 3 Z.f_Name_init Z.fd_Name_init ["self", "name"] (sp_Name_init Z) := by
  have G_is_pointed := ok_is_pointed (P := P) (w := w) (base := base) T
  refine T.F_Name_init.ok sc_Name_init (fun vs H Q E h => ?_) (fun cdv AA outer s H vs Q E hr h => ?_)
  · obtain ⟨x, dx, s, H0, rfl, _⟩ := h
    rfl
  · obtain ⟨x, dx, s, H0, rfl, hx, h0, e0, hp, hl, k⟩ := h
    have TX := tcB_ok T.x_Name
    refine ⟨_, (pss_cons (ps_if (pt_not (pt_val (pe_call G_is_pointed (hr.mono (by omega)) rfl T.g_is_pointed T.F_is_pointed.kp T.b_is_pointed .nil pass0 (pa_cons (pv 1) pa_nil)))) (pss_one ps_never) pss_nil)
      (pss_one (ps_fld (pv 0) (pv 1) (by rfl)))), ?_⟩
    walk_at "ss"
    refine ⟨_, rfl, .inl ⟨s, rfl, by omega, fun H1 e1 => ?_⟩⟩
    rw [hp]
    walk_at "ss"
    refine ⟨x, _, dx, _, rfl, e1 _ _ hx, TX.cl, TX.no _ (by decide +kernel), by simp, ?_⟩
    walk_at "ss"
    exact k _ (Ex.mut (e0.trans e1) h0) upd_same
theorem ok_Value_init (T : Txt K mg Z) : FnOk P w K mg base CX0 4 Z.f_Value_init Z.fd_Value_init ["self", "value"] (sp_Value_init Z) := by
  have G_is_value := ok_is_value (P := P) (w := w) (base := base) T
  refine T.F_Value_init.ok sc_Value_init (fun vs H Q E h => ?_) (fun cdv AA outer s H vs Q E hr h => ?_)
  · obtain ⟨x, dx, s, H0, rfl, _⟩ := h
    rfl
  · obtain ⟨x, dx, v, H0, rfl, hx, h0, e0, hp, k⟩ := h
    have TX := tcB_ok T.x_Value
    refine ⟨_, (pss_cons (ps_if (pt_not (pt_val (pe_call G_is_value (hr.mono (by omega)) rfl T.g_is_value T.F_is_value.kp T.b_is_value .nil pass0 (pa_cons (pv 1) pa_nil)))) (pss_one ps_never) pss_nil)
      (pss_one (ps_fld (pv 0) (pv 1) (by rfl)))), ?_⟩
    walk_at "ss"
    refine is_val hp ?_
    walk_at "ss"
    refine ⟨x, _, dx, _, rfl, hx, TX.cl, TX.no _ (by decide +kernel), by simp, ?_⟩
    walk_at "ss"
    exact k _ (Ex.mut e0 h0) upd_same
theorem in_ops {op : Str} (h : op ∈ opsW) : inV (.str op) opsV2 = true := by
  unfold opsV2
  rw [inV_str]
  exact List.contains_iff_mem.mpr h
theorem ok_Two_init (T : Txt K mg Z) : FnOk P w K mg base CX0 9 Z.f_Two_init Z.fd_Two_init ["self", "op", "one", "other"] (sp_Two_init Z) := by
  have G_ops_told := ok_ops_told (P := P) (w := w) (base := base) T
  have G_need_term := ok_need_term (P := P) (w := w) (base := base) T
  refine T.F_Two_init.ok sc_Two_init (fun vs H Q E h => ?_) (fun cdv AA outer s H vs Q E hr h => ?_)
  · obtain ⟨x, dx, op, p, q, v1, v2, H0, rfl, _⟩ := h
    rfl
  · obtain ⟨x, dx, op, p, q, v1, v2, H0, rfl, hx, h0, e0, ho, h1, h2, d1, d2, k⟩ := h
    have TX := tcB_ok T.x_Two
    refine ⟨_, (pss_cons (ps_if (PW.pt (pw_or (pt_not (pt_val (pe_callB call_isi (by rfl) T.n_isinstance (by decide +kernel) (pa_cons (pv 1) (pa_cons (pe_bltn (v := .ty "str") (by rfl) T.n_str (by decide +kernel) rfl) pa_nil))))) (pw_or1 (pt_cmpR op_notIn_seq (pv 1) (pe_call0 G_ops_told (hr.mono (by omega)) rfl T.g_ops_told T.F_ops_told.kp T.b_ops_told .nil pass0) (by rfl))))) (pss_one ps_never) pss_nil)
      (pss_cons (ps_fld (pv 0) (pv 1) (by rfl))
      (pss_cons (ps_fld (pv 0) (pe_call G_need_term (hr.mono (by omega)) rfl T.g_need_term T.F_need_term.kp T.b_need_term .nil pass0 (pa_cons (pv 2) pa_nil)) (by rfl))
      (pss_one (ps_fld (pv 0) (pe_call G_need_term (hr.mono (by omega)) rfl T.g_need_term T.F_need_term.kp T.b_need_term .nil pass0 (pa_cons (pv 3) pa_nil)) (by rfl)))))), ?_⟩
    walk_at "ss"
    refine isi (ty_str op) kb_ss ?_
    walk_at "ss"
    refine ⟨rfl, fun pl H1 hpl e1 g1 => ?_⟩
    refine c_notin (.inl (SqL.of g1)) rfl flat_strs ?_
    rw [in_ops ho]
    walk_at "ss"
    refine ⟨x, _, dx, _, rfl, e1 _ _ hx, TX.cl, TX.no _ (by decide +kernel), by simp, ?_⟩
    have e2 : Ex H0 (upd H1 x (.ins Z.c_Two dx (putF "op" (.str op) []))) := Ex.mut (e0.trans e1) h0
    have hx2 : upd H1 x (.ins Z.c_Two dx (putF "op" (.str op) [])) x = some (.ins Z.c_Two dx [("op", .str op)]) := upd_same
    generalize upd H1 x (.ins Z.c_Two dx (putF "op" (.str op) [])) = H2 at e2 hx2
    walk_at "ss"
    refine ⟨p, v1, rfl, h1.up e2, d1, fun H3 e3 => ?_⟩
    walk_at "ss"
    refine ⟨x, _, dx, _, rfl, e3 _ _ hx2, TX.cl, TX.no _ (by decide +kernel), by simp, ?_⟩
    rw [put_tl (by decide +kernel)]
    have e4 : Ex H0 (upd H3 x (.ins Z.c_Two dx (("op", .str op) :: putF "one" v1 []))) := Ex.mut (e2.trans e3) h0
    have hx4 : upd H3 x (.ins Z.c_Two dx (("op", .str op) :: putF "one" v1 [])) x = some (.ins Z.c_Two dx [("op", .str op), ("one", v1)]) := upd_same
    generalize upd H3 x (.ins Z.c_Two dx (("op", .str op) :: putF "one" v1 [])) = H4 at e4 hx4
    walk_at "ss"
    refine ⟨q, v2, rfl, h2.up e4, d2, fun H5 e5 => ?_⟩
    walk_at "ss"
    refine ⟨x, _, dx, _, rfl, e5 _ _ hx4, TX.cl, TX.no _ (by decide +kernel), by simp, ?_⟩
    rw [put_tl (by decide +kernel), put_tl (by decide +kernel)]
    walk_at "ss"
    exact k _ (Ex.mut (e4.trans e5) h0) upd_same
theorem ok_Not_init (T : Txt K mg Z) : FnOk P w K mg base CX0 9 Z.f_Not_init Z.fd_Not_init ["self", "one"] (sp_Not_init Z) := by
  have G_need_term := ok_need_term (P := P) (w := w) (base := base) T
  refine T.F_Not_init.ok sc_Not_init (fun vs H Q E h => ?_) (fun cdv AA outer s H vs Q E hr h => ?_)
  · obtain ⟨x, dx, p, v1, H0, rfl, _⟩ := h
    rfl
  · obtain ⟨x, dx, p, v1, H0, rfl, hx, h0, e0, h1, d1, k⟩ := h
    have TX := tcB_ok T.x_Not
    refine ⟨_, (pss_one (ps_fld (pv 0) (pe_call G_need_term (hr.mono (by omega)) rfl T.g_need_term T.F_need_term.kp T.b_need_term .nil pass0 (pa_cons (pv 1) pa_nil)) (by rfl))), ?_⟩
    walk_at "ss"
    refine ⟨p, v1, rfl, h1.up e0, d1, fun H3 e3 => ?_⟩
    walk_at "ss"
    refine ⟨x, _, dx, _, rfl, e3 _ _ hx, TX.cl, TX.no _ (by decide +kernel), by simp, ?_⟩
    walk_at "ss"
    exact k _ (Ex.mut (e0.trans e3) h0) upd_same
theorem ok_Pick_init (T : Txt K mg Z) : FnOk P w K mg base CX0 9 Z.f_Pick_init Z.fd_Pick_init ["self", "by", "one", "other"] (sp_Pick_init Z) := by
  have G_need_term := ok_need_term (P := P) (w := w) (base := base) T
  refine T.F_Pick_init.ok sc_Pick_init (fun vs H Q E h => ?_) (fun cdv AA outer s H vs Q E hr h => ?_)
  · obtain ⟨x, dx, c, p, q, v0, v1, v2, H0, rfl, _⟩ := h
    rfl
  · obtain ⟨x, dx, c, p, q, v0, v1, v2, H0, rfl, hx, h0, e0, hc, h1, h2, d0, d1, d2, k⟩ := h
    have TX := tcB_ok T.x_Pick
    refine ⟨_, (pss_cons (ps_fld (pv 0) (pe_call G_need_term (hr.mono (by omega)) rfl T.g_need_term T.F_need_term.kp T.b_need_term .nil pass0 (pa_cons (pv 1) pa_nil)) (by rfl))
      (pss_cons (ps_fld (pv 0) (pe_call G_need_term (hr.mono (by omega)) rfl T.g_need_term T.F_need_term.kp T.b_need_term .nil pass0 (pa_cons (pv 2) pa_nil)) (by rfl))
      (pss_one (ps_fld (pv 0) (pe_call G_need_term (hr.mono (by omega)) rfl T.g_need_term T.F_need_term.kp T.b_need_term .nil pass0 (pa_cons (pv 3) pa_nil)) (by rfl))))), ?_⟩
    walk_at "ss"
    refine ⟨c, v0, rfl, hc.up e0, d0, fun H1 e1 => ?_⟩
    walk_at "ss"
    refine ⟨x, _, dx, _, rfl, e1 _ _ hx, TX.cl, TX.no _ (by decide +kernel), by simp, ?_⟩
    have e2 : Ex H0 (upd H1 x (.ins Z.c_Pick dx (putF "by" v0 []))) := Ex.mut (e0.trans e1) h0
    have hx2 : upd H1 x (.ins Z.c_Pick dx (putF "by" v0 [])) x = some (.ins Z.c_Pick dx [("by", v0)]) := upd_same
    generalize upd H1 x (.ins Z.c_Pick dx (putF "by" v0 [])) = H2 at e2 hx2
    walk_at "ss"
    refine ⟨p, v1, rfl, h1.up e2, d1, fun H3 e3 => ?_⟩
    walk_at "ss"
    refine ⟨x, _, dx, _, rfl, e3 _ _ hx2, TX.cl, TX.no _ (by decide +kernel), by simp, ?_⟩
    rw [put_tl (by decide +kernel)]
    have e4 : Ex H0 (upd H3 x (.ins Z.c_Pick dx (("by", v0) :: putF "one" v1 []))) := Ex.mut (e2.trans e3) h0
    have hx4 : upd H3 x (.ins Z.c_Pick dx (("by", v0) :: putF "one" v1 [])) x = some (.ins Z.c_Pick dx [("by", v0), ("one", v1)]) := upd_same
    generalize upd H3 x (.ins Z.c_Pick dx (("by", v0) :: putF "one" v1 [])) = H4 at e4 hx4
    walk_at "ss"
    refine ⟨q, v2, rfl, h2.up e4, d2, fun H5 e5 => ?_⟩
    walk_at "ss"
    refine ⟨x, _, dx, _, rfl, e5 _ _ hx4, TX.cl, TX.no _ (by decide +kernel), by simp, ?_⟩
    rw [put_tl (by decide +kernel), put_tl (by decide +kernel)]
    walk_at "ss"
    exact k _ (Ex.mut (e4.trans e5) h0) upd_same
/-- what is made where: a new one, all else kept -/
def RetM (Z : Adr) (t : Tm) (H : Hp) (Q : VK) : Prop := ∀ v H2, Ex H H2 → TermAt Z H2 t v → Q v H2
theorem RetM.up {t : Tm} {H0 H : Hp} {Q : VK} (k : RetM Z t H0 Q) (e : Ex H0 H) : RetM Z t H Q := fun v H2 e2 => k v H2 (e.trans e2)
theorem mk_heap {H : Hp} {x dx : Addr} {C : Addr} (hx : H x = none) (hd : H dx = none) : Ex H (upd (upd H dx (.own x)) x (.ins C dx [])) := fun a o h => by
  rw [upd_ne (ne_of_none h hx), upd_ne (ne_of_none h hd)]
  exact h
theorem mk_Name {H : Hp} {Q : VK} {E : XK} {s : Str} (hp : isPointed s = true) (hl : s.length ≤ 1000) (k : RetM Z (.nm s) H Q) : MkP2 Z.c_Name (sp_Name_init Z) [.str s] H Q E := fun x dx hx hd _ =>
  ⟨x, dx, s, H, rfl, upd_same, hx, mk_heap hx hd, hp, hl, fun H2 e2 g2 => ⟨rfl, k _ _ e2 ⟨x, dx, rfl, g2⟩⟩⟩
theorem mk_Value {H : Hp} {Q : VK} {E : XK} {v : V} (hp : isVal v = true) (k : RetM Z (.vl v) H Q) : MkP2 Z.c_Value (sp_Value_init Z) [v] H Q E := fun x dx hx hd _ =>
  ⟨x, dx, v, H, rfl, upd_same, hx, mk_heap hx hd, hp, fun H2 e2 g2 => ⟨rfl, k _ _ e2 ⟨x, dx, rfl, g2⟩⟩⟩
theorem mk_Two {H : Hp} {Q : VK} {E : XK} {op : Str} {p q : Tm} {v1 v2 : V} (ho : op ∈ opsW) (h1 : TermAt Z H p v1) (h2 : TermAt Z H q v2) (d1 : p.dep ≤ 4) (d2 : q.dep ≤ 4) (k : RetM Z (.two op p q) H Q) : MkP2 Z.c_Two (sp_Two_init Z) [.str op, v1, v2] H Q E := fun x dx hx hd _ =>
  ⟨x, dx, op, p, q, v1, v2, H, rfl, upd_same, hx, mk_heap hx hd, ho, h1, h2, d1, d2, fun H2 e2 g2 => ⟨rfl, k _ _ e2 ⟨x, dx, v1, v2, rfl, g2, h1.up e2, h2.up e2⟩⟩⟩
theorem mk_Not {H : Hp} {Q : VK} {E : XK} {p : Tm} {v1 : V} (h1 : TermAt Z H p v1) (d1 : p.dep ≤ 4) (k : RetM Z (.nt p) H Q) : MkP2 Z.c_Not (sp_Not_init Z) [v1] H Q E := fun x dx hx hd _ =>
  ⟨x, dx, p, v1, H, rfl, upd_same, hx, mk_heap hx hd, h1, d1, fun H2 e2 g2 => ⟨rfl, k _ _ e2 ⟨x, dx, v1, rfl, g2, h1.up e2⟩⟩⟩
theorem mk_Pick {H : Hp} {Q : VK} {E : XK} {c p q : Tm} {v0 v1 v2 : V} (h0 : TermAt Z H c v0) (h1 : TermAt Z H p v1) (h2 : TermAt Z H q v2) (d0 : c.dep ≤ 4) (d1 : p.dep ≤ 4) (d2 : q.dep ≤ 4) (k : RetM Z (.pk c p q) H Q) : MkP2 Z.c_Pick (sp_Pick_init Z) [v0, v1, v2] H Q E := fun x dx hx hd _ =>
  ⟨x, dx, c, p, q, v0, v1, v2, H, rfl, upd_same, hx, mk_heap hx hd, h0, h1, h2, d0, d1, d2, fun H2 e2 g2 => ⟨rfl, k _ _ e2 ⟨x, dx, v0, v1, v2, rfl, g2, h0.up e2, h1.up e2, h2.up e2⟩⟩⟩

/-! ### terms of what was told -/
def Tm.good : Tm → Prop
  | .nm s => isPointed s = true ∧ s.length ≤ 80 ∧ OkT s
  | .vl v => isVal v = true
  | .two op a b => op ∈ opsW ∧ a.good ∧ b.good
  | .nt a => a.good
  | .pk c a b => c.good ∧ a.good ∧ b.good
def valD : V → PyData
  | .bl b => .bool b
  | .int i => .int i
  | _ => .none
def Tm.data : Tm → PyData
  | .nm s => .tuple [.str "name", .str s]
  | .vl v => .tuple [.str "value", valD v]
  | .two op a b => .tuple [.str "two", .str op, a.data, b.data]
  | .nt a => .tuple [.str "not", a.data]
  | .pk c a b => .tuple [.str "pick", c.data, a.data, b.data]
theorem ToldAt.dp {H : Hp} : ∀ {t : Tm} {u : V}, t.good → ToldAt H t u → Dp K H u t.data := by
  intro t
  induction t with
  | nm s => rintro u _ ⟨a, rfl, h⟩; exact .tup (SqT.of h) (.cons (.str _) (.cons (.str _) .nil))
  | vl v =>
    rintro u g ⟨a, rfl, h⟩
    refine .tup (SqT.of h) (.cons (.str _) (.cons ?_ .nil))
    cases v with
    | bl b => exact .bl b
    | int i => exact .int i
    | _ => exact absurd g Bool.false_ne_true
  | two op p q ihp ihq => rintro u g ⟨a, v1, v2, rfl, h, h1, h2⟩; exact .tup (SqT.of h) (.cons (.str _) (.cons (.str _) (.cons (ihp g.2.1 h1) (.cons (ihq g.2.2 h2) .nil))))
  | nt p ihp => rintro u g ⟨a, v1, rfl, h, h1⟩; exact .tup (SqT.of h) (.cons (.str _) (.cons (ihp g h1) .nil))
  | pk c p q ihc ihp ihq => rintro u g ⟨a, v0, v1, v2, rfl, h, h0, h1, h2⟩; exact .tup (SqT.of h) (.cons (.str _) (.cons (ihc g.1 h0) (.cons (ihp g.2.1 h1) (.cons (ihq g.2.2 h2) .nil))))
theorem ok_lit {s : Str} (h : (TL.tl s).all (fun c => decide (c < 1114112)) = true) {n : Nat} (hl : s.length ≤ n) : RpOk 0 n (.str s) := (rp_str (OkT.lit h)).mono (Nat.le_refl _) hl
theorem ops_lit {op : Str} (h : op ∈ opsW) : RpOk 0 5 (.str op) := by
  have : opsW.all (fun s => (TL.tl s).all (fun c => decide (c < 1114112)) && decide (s.length ≤ 5)) = true := by decide +kernel
  have := List.all_eq_true.mp this op h
  rw [Bool.and_eq_true, decide_eq_true_eq] at this
  exact ok_lit this.1 this.2
theorem Tm.rp : ∀ {t : Tm}, t.good → RpOk t.dep (200 * 4 ^ t.dep) t.data := by
  intro t
  induction t with
  | nm s =>
    intro g
    refine (rp_tup (rp_cons (ok_lit (n := 4) (by decide +kernel) (by decide +kernel)) (rp_cons (rp_str g.2.2) rp_nil))).mono (by show 0 + 1 ≤ 1; omega) ?_
    have := g.2.1
    show 4 + 1 + (s.length + 1 + 0) ≤ 200 * 4 ^ 1
    omega
  | vl v =>
    intro g
    have hv : RpOk 0 0 (valD v) := by
      cases v with
      | bl b => exact rp_bl b
      | int i =>
        have g' : (decide (-1000000000 ≤ i) && decide (i ≤ 1000000000)) = true := g
        rw [Bool.and_eq_true, decide_eq_true_eq, decide_eq_true_eq] at g'
        exact rp_int (by omega)
      | _ => exact absurd g Bool.false_ne_true
    exact (rp_tup (rp_cons (ok_lit (n := 5) (by decide +kernel) (by decide +kernel)) (rp_cons hv rp_nil))).mono (by show 0 + 1 ≤ 1; omega) (by show 5 + 1 + (0 + 1 + 0) ≤ 200 * 4 ^ 1; omega)
  | two op a b iha ihb =>
    intro g
    have p1 : 4 ^ a.dep ≤ 4 ^ max a.dep b.dep := Nat.pow_le_pow_right (by decide) (by omega)
    have p2 : 4 ^ b.dep ≤ 4 ^ max a.dep b.dep := Nat.pow_le_pow_right (by decide) (by omega)
    have p3 : 1 ≤ 4 ^ max a.dep b.dep := Nat.one_le_pow _ _ (by decide)
    have e : 4 ^ (1 + max a.dep b.dep) = 4 * 4 ^ max a.dep b.dep := by rw [Nat.pow_add]
    refine (rp_tup (rp_cons (ok_lit (n := 4) (by decide +kernel) (by decide +kernel)) (rp_cons (ops_lit g.1) (rp_cons (iha g.2.1) (rp_cons (ihb g.2.2) rp_nil))))).mono ?_ ?_
    · show max 0 (max 0 (max a.dep (max b.dep 0))) + 1 ≤ 1 + max a.dep b.dep
      omega
    · show 4 + 1 + (5 + 1 + (200 * 4 ^ a.dep + 1 + (200 * 4 ^ b.dep + 1 + 0))) ≤ 200 * 4 ^ (1 + max a.dep b.dep)
      rw [e]
      omega
  | nt a iha =>
    intro g
    have p3 : 1 ≤ 4 ^ a.dep := Nat.one_le_pow _ _ (by decide)
    have e : 4 ^ (1 + a.dep) = 4 * 4 ^ a.dep := by rw [Nat.pow_add]
    refine (rp_tup (rp_cons (ok_lit (n := 4) (by decide +kernel) (by decide +kernel)) (rp_cons (iha g) rp_nil))).mono ?_ ?_
    · show max 0 (max a.dep 0) + 1 ≤ 1 + a.dep
      omega
    · show 4 + 1 + (200 * 4 ^ a.dep + 1 + 0) ≤ 200 * 4 ^ (1 + a.dep)
      rw [e]
      omega
  | pk c a b ihc iha ihb =>
    intro g
    have p0 : 4 ^ c.dep ≤ 4 ^ max (max c.dep a.dep) b.dep := Nat.pow_le_pow_right (by decide) (by omega)
    have p1 : 4 ^ a.dep ≤ 4 ^ max (max c.dep a.dep) b.dep := Nat.pow_le_pow_right (by decide) (by omega)
    have p2 : 4 ^ b.dep ≤ 4 ^ max (max c.dep a.dep) b.dep := Nat.pow_le_pow_right (by decide) (by omega)
    have p3 : 1 ≤ 4 ^ max (max c.dep a.dep) b.dep := Nat.one_le_pow _ _ (by decide)
    have e : 4 ^ (1 + max (max c.dep a.dep) b.dep) = 4 * 4 ^ max (max c.dep a.dep) b.dep := by rw [Nat.pow_add]
    refine (rp_tup (rp_cons (ok_lit (n := 4) (by decide +kernel) (by decide +kernel)) (rp_cons (ihc g.1) (rp_cons (iha g.2.1) (rp_cons (ihb g.2.2) rp_nil))))).mono ?_ ?_
    · show max 0 (max c.dep (max a.dep (max b.dep 0))) + 1 ≤ 1 + max (max c.dep a.dep) b.dep
      omega
    · show 4 + 1 + (200 * 4 ^ c.dep + 1 + (200 * 4 ^ a.dep + 1 + (200 * 4 ^ b.dep + 1 + 0))) ≤ 200 * 4 ^ (1 + max (max c.dep a.dep) b.dep)
      rw [e]
      omega
theorem NL.ins {H H2 : Hp} (e : NL H H2) : InsK H H2 := fun a C dx fs h => e a _ (fun _ z => by cases z) h
theorem NL.tups {H H2 : Hp} (e : NL H H2) : TupK H H2 := fun a xs h => e a _ (fun _ z => by cases z) h
def sp_simple_of (Z : Adr) : Sp := fun vs H Q _ => (∃ s, vs = [.str "name", .str s] ∧ isPointed s = true ∧ s.length ≤ 80 ∧ RetM Z (.nm s) H Q) ∨ ∃ v, vs = [.str "value", v] ∧ isVal v = true ∧ RetM Z (.vl v) H Q
theorem ok_simple_of (T : Txt K mg Z) : FnOk P w K mg base CX0 6 Z.f_simple_of Z.fd_simple_of ["word", "thing"] (sp_simple_of Z) := by
  have G_is_pointed := ok_is_pointed (P := P) (w := w) (base := base) T
  have G_is_value := ok_is_value (P := P) (w := w) (base := base) T
  have G_Name_init := ok_Name_init (P := P) (w := w) (base := base) T
  have G_Value_init := ok_Value_init (P := P) (w := w) (base := base) T
  refine T.F_simple_of.ok sc_simple_of (fun vs H Q E h => ?_) (fun cdv AA outer s H vs Q E hr h => ?_)
  · rcases h with ⟨s, rfl, _⟩ | ⟨v, rfl, _⟩ <;> rfl
  · refine ⟨_, (pss_cons (ps_if (PW.pt (pw_and (pt_cmpR op_eq (pv 0) pe_str (nomark _)) (pw_and1 (pt_val (pe_call G_is_pointed (hr.mono (by omega)) rfl T.g_is_pointed T.F_is_pointed.kp T.b_is_pointed .nil pass0 (pa_cons (pv 1) pa_nil)))))) (pss_one (ps_ret (pe_make ⟨(tcB_ok T.x_Name).makes, T.i_Name, T.y_Name_init, (tcB_ok T.x_Name).kp⟩ G_Name_init (hr.mono (by omega)) rfl T.m_Name T.b_Name_init .nil pass0 (pa_cons (pv 1) pa_nil)))) pss_nil)
      (pss_cons (ps_if (PW.pt (pw_and (pt_cmpR op_eq (pv 0) pe_str (nomark _)) (pw_and1 (pt_val (pe_call G_is_value (hr.mono (by omega)) rfl T.g_is_value T.F_is_value.kp T.b_is_value .nil pass0 (pa_cons (pv 1) pa_nil)))))) (pss_one (ps_ret (pe_make ⟨(tcB_ok T.x_Value).makes, T.i_Value, T.y_Value_init, (tcB_ok T.x_Value).kp⟩ G_Value_init (hr.mono (by omega)) rfl T.m_Value T.b_Value_init .nil pass0 (pa_cons (pv 1) pa_nil)))) pss_nil)
      (pss_one (ps_ret pe_non)))), ?_⟩
    rcases h with ⟨s, rfl, hp, hl, k⟩ | ⟨v, rfl, hp, k⟩
    · walk_at "ss"
      rw [str_eq rfl]
      walk_at "ss"
      refine ⟨_, rfl, .inl ⟨s, rfl, by omega, fun H1 e1 => ?_⟩⟩
      rw [hp]
      walk_at "ss"
      exact mk_Name hp (by omega) (k.up e1)
    · walk_at "ss"
      rw [str_ne (by decide +kernel)]
      walk_at "ss"
      rw [str_eq rfl]
      walk_at "ss"
      refine is_val hp ?_
      walk_at "ss"
      exact mk_Value hp k

theorem int_ne {i j : Int} (h : i ≠ j) : decide (V.int i = V.int j) = false := decide_eq_false fun e => h (V.int.inj e)
theorem int_eq {i j : Int} (h : i = j) : decide (V.int i = V.int j) = true := decide_eq_true (by rw [h])
theorem kb_tt : kitB "tuple" "tuple" = some true := by decide +kernel
def sp_made (Z : Adr) (n : Nat) : Sp := fun vs H Q _ => ∃ (t : Tm) (u : V) (l : Nat), vs = [u, .int (l : Nat)] ∧ ToldAt H t u ∧ t.good ∧ t.dep ≤ l ∧ l ≤ n ∧ l ≤ 5 ∧ RetM Z t H Q
theorem ok_made_of_told (T : Txt K mg Z) {n : Nat} (G_made_of_told : FnOk P w K mg base CX0 (n + 12) Z.f_made_of_told Z.fd_made_of_told ["told", "left"] (sp_made Z n)) : FnOk P w K mg base CX0 (n + 13) Z.f_made_of_told Z.fd_made_of_told ["told", "left"] (sp_made Z (n + 1)) := by
  have G_simple_of := ok_simple_of (P := P) (w := w) (base := base) T
  have G_ops_told := ok_ops_told (P := P) (w := w) (base := base) T
  have G_Two_init := ok_Two_init (P := P) (w := w) (base := base) T
  have G_Not_init := ok_Not_init (P := P) (w := w) (base := base) T
  have G_Pick_init := ok_Pick_init (P := P) (w := w) (base := base) T
  refine T.F_made_of_told.ok sc_made_of_told (fun vs H Q E h => ?_) (fun cdv AA outer s H vs Q E hr h => ?_)
  · obtain ⟨t, u, l, rfl, _⟩ := h
    rfl
  · obtain ⟨t, u, l, rfl, ht, hg, hd, hl, h5, k⟩ := h
    have hd0 := t.dep_pos
    refine ⟨_, (pss_cons (ps_if (PW.pt (pw_or (pt_cmpR op_eq (pv 1) pe_int (nomark _)) (pw_or (pt_not (pt_val (pe_callB call_isi (by rfl) T.n_isinstance (by decide +kernel) (pa_cons (pv 0) (pa_cons (pe_bltn (v := .ty "tuple") (by rfl) T.n_tuple (by decide +kernel) rfl) pa_nil))))) (pw_or (pt_cmpR op_lt (pe_callB call_len_seq (by rfl) T.n_len (by decide +kernel) (pa_cons (pv 0) pa_nil)) pe_int (nomark _)) (pw_or1 (pt_not (pt_val (pe_callB call_isi (by rfl) T.n_isinstance (by decide +kernel) (pa_cons (pe_ix ix_tup (pv 0) pe_int (fun _ _ => rfl)) (pa_cons (pe_bltn (v := .ty "str") (by rfl) T.n_str (by decide +kernel) rfl) pa_nil)))))))))) (pss_one (ps_ret pe_non)) pss_nil)
      (pss_cons (ps_set (i := 2) sc_made_of_told.nd rfl (Or.inl rfl) (pe_ix ix_tup (pv 0) pe_int (fun _ _ => rfl)))
      (pss_cons (ps_if (PW.pt (pw_and (pt_cmpR op_in_seq (pv 2) (pe_tup (pa_cons pe_str (pa_cons pe_str pa_nil))) (by rfl)) (pw_and1 (pt_cmpR op_eq (pe_callB call_len_seq (by rfl) T.n_len (by decide +kernel) (pa_cons (pv 0) pa_nil)) pe_int (nomark _))))) (pss_one (ps_ret (pe_call G_simple_of (hr.mono (by omega)) rfl T.g_simple_of T.F_simple_of.kp T.b_simple_of .nil pass0 (pa_cons (pv 2) (pa_cons (pe_ix ix_tup (pv 0) pe_int (fun _ _ => rfl)) pa_nil))))) pss_nil)
      (pss_cons (ps_set (i := 3) sc_made_of_told.nd rfl (Or.inl rfl) (pe_op op_add pe_int (pe_callTy call_int1 (by rfl) T.n_int (by decide +kernel) (pa_cons (pe_cmpR op_eq (pv 2) pe_str (nomark _)) pa_nil))))
      (pss_cons (ps_setLc (i := 4) (own := [("one", 5)]) (g := (gName 5)) (tt := tYes) (te := (tCall (sp_made Z n) [] E0 (tCons (tVar 5) (tCons (tOp (rI0 fun i j => .int (i - j)) (tVar 1) (tC (.int 1))) tNil)))) rfl sc_made_of_told.nd rfl rfl (sw_true rfl rfl rfl (by decide +kernel)) (pi_tup (pe_slice sl_tup (pv 0) (po_some (pv 3)) po_none)) (blkOk_by (own := [("one", 5)]) (N := N_made_of_told) (sc := defScope s_made_of_told) (by decide +kernel)) (fun _ _ _ _ _ => (pg_name (i := 5) sc_made_of_told.nd rfl (Or.inl rfl))) (fun _ _ _ _ _ => pts_nil) (fun _ _ _ _ _ => (pe_call G_made_of_told (hr.mono (by omega)) rfl T.g_made_of_told T.F_made_of_told.kp T.b_made_of_told .nil pass0 (pa_cons (pv 5) (pa_cons (pe_op op_sub (pv 1) pe_int) pa_nil)))))
      (pss_cons (ps_if (pt_cmpR (op_noneIn hr.units) pe_non (pv 4) (by rfl)) (pss_one (ps_ret pe_non)) pss_nil)
      (pss_cons (ps_if (PW.pt (pw_and (pt_cmpR op_eq (pv 2) pe_str (nomark _)) (pw_and (pt_cmpR op_eq (pe_callB call_len_seq (by rfl) T.n_len (by decide +kernel) (pa_cons (pv 4) pa_nil)) pe_int (nomark _)) (pw_and (pt_val (pe_callB call_isi (by rfl) T.n_isinstance (by decide +kernel) (pa_cons (pe_ix ix_tup (pv 0) pe_int (fun _ _ => rfl)) (pa_cons (pe_bltn (v := .ty "str") (by rfl) T.n_str (by decide +kernel) rfl) pa_nil)))) (pw_and1 (pt_cmpR op_in_seq (pe_ix ix_tup (pv 0) pe_int (fun _ _ => rfl)) (pe_call0 G_ops_told (hr.mono (by omega)) rfl T.g_ops_told T.F_ops_told.kp T.b_ops_told .nil pass0) (by rfl))))))) (pss_one (ps_ret (pe_make ⟨(tcB_ok T.x_Two).makes, T.i_Two, T.y_Two_init, (tcB_ok T.x_Two).kp⟩ G_Two_init (hr.mono (by omega)) rfl T.m_Two T.b_Two_init .nil pass0 (pa_cons (pe_ix ix_tup (pv 0) pe_int (fun _ _ => rfl)) (pa_cons (pe_ix ix_list (pv 4) pe_int (fun _ _ => rfl)) (pa_cons (pe_ix ix_list (pv 4) pe_int (fun _ _ => rfl)) pa_nil)))))) pss_nil)
      (pss_cons (ps_if (PW.pt (pw_and (pt_cmpR op_eq (pv 2) pe_str (nomark _)) (pw_and1 (pt_cmpR op_eq (pe_callB call_len_seq (by rfl) T.n_len (by decide +kernel) (pa_cons (pv 4) pa_nil)) pe_int (nomark _))))) (pss_one (ps_ret (pe_make ⟨(tcB_ok T.x_Not).makes, T.i_Not, T.y_Not_init, (tcB_ok T.x_Not).kp⟩ G_Not_init (hr.mono (by omega)) rfl T.m_Not T.b_Not_init .nil pass0 (pa_cons (pe_ix ix_list (pv 4) pe_int (fun _ _ => rfl)) pa_nil)))) pss_nil)
      (pss_cons (ps_if (PW.pt (pw_and (pt_cmpR op_eq (pv 2) pe_str (nomark _)) (pw_and1 (pt_cmpR op_eq (pe_callB call_len_seq (by rfl) T.n_len (by decide +kernel) (pa_cons (pv 4) pa_nil)) pe_int (nomark _))))) (pss_one (ps_ret (pe_make ⟨(tcB_ok T.x_Pick).makes, T.i_Pick, T.y_Pick_init, (tcB_ok T.x_Pick).kp⟩ G_Pick_init (hr.mono (by omega)) rfl T.m_Pick T.b_Pick_init .nil pass0 (pa_cons (pe_ix ix_list (pv 4) pe_int (fun _ _ => rfl)) (pa_cons (pe_ix ix_list (pv 4) pe_int (fun _ _ => rfl)) (pa_cons (pe_ix ix_list (pv 4) pe_int (fun _ _ => rfl)) pa_nil)))))) pss_nil)
      (pss_one (ps_ret pe_non))))))))))), ?_⟩
    cases t with
    | nm s =>
      obtain ⟨a, rfl, ha⟩ := ht
      walk_at "ss"
      rw [int_ne (by omega)]
      walk_at "ss"
      refine isi (ty_tup ha) kb_tt ?_
      walk_at "ss"
      refine ⟨a, _, rfl, .inr (SqT.of ha), ?_⟩
      walk_at "ss"
      refine if_ff rfl ?_
      walk_at "ss"
      refine c_ixT (SqT.of ha) rfl ?_
      walk_at "ss"
      refine isi (ty_str _) kb_ss ?_
      walk_at "ss"
      refine c_ixT (SqT.of ha) rfl ?_
      walk_at "ss"
      refine newT fun p1 H1 hp1 e1 g1 => ?_
      refine c_in (.inr (SqT.of g1)) rfl rfl ?_
      have ha1 := e1 _ _ ha
      rw [show inV (V.str "name") [V.str "name", V.str "value"] = true from by decide +kernel]
      walk_at "ss"
      refine ⟨a, _, rfl, .inr (SqT.of ha1), ?_⟩
      walk_at "ss"
      refine if_tt rfl ?_
      walk_at "ss"
      refine c_ixT (SqT.of ha1) rfl ?_
      walk_at "ss"
      exact .inl ⟨_, rfl, hg.1, hg.2.1, k.up e1⟩
    | vl v =>
      obtain ⟨a, rfl, ha⟩ := ht
      walk_at "ss"
      rw [int_ne (by omega)]
      walk_at "ss"
      refine isi (ty_tup ha) kb_tt ?_
      walk_at "ss"
      refine ⟨a, _, rfl, .inr (SqT.of ha), ?_⟩
      walk_at "ss"
      refine if_ff rfl ?_
      walk_at "ss"
      refine c_ixT (SqT.of ha) rfl ?_
      walk_at "ss"
      refine isi (ty_str _) kb_ss ?_
      walk_at "ss"
      refine c_ixT (SqT.of ha) rfl ?_
      walk_at "ss"
      refine newT fun p1 H1 hp1 e1 g1 => ?_
      refine c_in (.inr (SqT.of g1)) rfl rfl ?_
      have ha1 := e1 _ _ ha
      rw [show inV (V.str "value") [V.str "name", V.str "value"] = true from by decide +kernel]
      walk_at "ss"
      refine ⟨a, _, rfl, .inr (SqT.of ha1), ?_⟩
      walk_at "ss"
      refine if_tt rfl ?_
      walk_at "ss"
      refine c_ixT (SqT.of ha1) rfl ?_
      walk_at "ss"
      exact .inr ⟨_, rfl, hg, k.up e1⟩
    | two op tx ty =>
      obtain ⟨a, v1, v2, rfl, ha, h_tx, h_ty⟩ := ht
      obtain ⟨gop, g_tx, g_ty⟩ := hg
      simp only [Tm.dep] at hd hd0
      walk_at "ss"
      rw [int_ne (by omega)]
      walk_at "ss"
      refine isi (ty_tup ha) kb_tt ?_
      walk_at "ss"
      refine ⟨a, _, rfl, .inr (SqT.of ha), ?_⟩
      walk_at "ss"
      refine if_ff rfl ?_
      walk_at "ss"
      refine c_ixT (SqT.of ha) rfl ?_
      walk_at "ss"
      refine isi (ty_str _) kb_ss ?_
      walk_at "ss"
      refine c_ixT (SqT.of ha) rfl ?_
      walk_at "ss"
      refine newT fun p1 H1 hp1 e1 g1 => ?_
      refine c_in (.inr (SqT.of g1)) rfl rfl ?_
      have ha1 := e1 _ _ ha
      rw [show inV (V.str "two") [V.str "name", V.str "value"] = false from by decide +kernel]
      walk_at "ss"
      rw [str_eq rfl]
      walk_at "ss"
      refine .inr ⟨_, rfl, ?_⟩
      walk_at "ss"
      refine ⟨a, _, rfl, SqT.of ha1, fun z => absurd (show (2 : Nat) = 0 from z.1) (by decide), fun p2 hp2 => ?_⟩
      have e2 : Ex H1 (upd H1 p2 (.tup [v1, v2])) := Ex.new hp2
      have g2 : upd H1 p2 (.tup [v1, v2]) p2 = some (.tup [v1, v2]) := upd_same
      show ∃ a, _
      rw [show cutV [V.str "two", V.str op, v1, v2] _ none = [v1, v2] from rfl]
      generalize upd H1 p2 (.tup [v1, v2]) = H2 at e2 g2
      have e12 := e1.trans e2
      refine ⟨p2, rfl, ⟨_, SqT.of g2⟩, lcTN (fun i y G => ∃ t, ([tx, ty] : List Tm)[i]? = some t ∧ TermAt Z G t y) (fun i y G G2 en ⟨t, h1, h2⟩ => ⟨t, h1, h2.keep (NL.ins en)⟩) (SqT.of g2) (by simp) (fun i x hx => ?_) ?_⟩
      · intro H3 e3 R N hR
        have hi : i < 2 := by simpa using (List.getElem?_eq_some_iff.mp hx).1
        walk_at "ss"
        have go : ∃ t, ([tx, ty] : List Tm)[i]? = some t ∧ ToldAt H t x ∧ t.good ∧ t.dep + 1 ≤ l := by
          have hi' : i = 0 ∨ i = 1 := by omega
          rcases hi' with rfl | rfl
          · have hv : v1 = x := by simpa using hx
            subst hv
            exact ⟨tx, rfl, h_tx, g_tx, by omega⟩
          · have hv : v2 = x := by simpa using hx
            subst hv
            exact ⟨ty, rfl, h_ty, g_ty, by omega⟩
        obtain ⟨t, ht1, ht2, ht3, ht4⟩ := go
        have el : ((l : Nat) : Int) - 1 = ((l - 1 : Nat) : Int) := by omega
        rw [el]
        refine ⟨t, x, l - 1, rfl, ht2.up (e12.trans e3), ht3, by omega, by omega, by omega, fun v H4 e4 tv => ?_⟩
        exact hR _ _ e4 ⟨t, ht1, tv⟩
      intro ys p3 H3 hyl hys hp3 e3 g3
      obtain ⟨y0, y1, rfl⟩ : ∃ y0 y1, ys = [y0, y1] := by
        match ys, hyl with
        | [y0, y1], _ => exact ⟨y0, y1, rfl⟩
      have k0 : TermAt Z H3 tx y0 := by
        obtain ⟨t, h1, h2⟩ := hys 0 y0 rfl
        have : tx = t := by simpa using h1
        subst this
        exact h2
      have k1 : TermAt Z H3 ty y1 := by
        obtain ⟨t, h1, h2⟩ := hys 1 y1 rfl
        have : ty = t := by simpa using h1
        subst this
        exact h2
      have e03 := e12.trans e3
      have ha3 := e03 _ _ ha
      walk_at "ss"
      refine c_noneIn (SqL.of g3) (fun z hz => ?_) (fun z hz => ?_) ?_
      · obtain ⟨i, hi⟩ := List.getElem?_of_mem hz
        obtain ⟨t, _, h2⟩ := hys i z hi
        exact h2.noneOr T
      · obtain ⟨i, hi⟩ := List.getElem?_of_mem hz
        obtain ⟨t, _, h2⟩ := hys i z hi
        obtain ⟨aa, _, _, rfl, _⟩ := h2.cls
        exact fun z => by cases z
      walk_at "ss"
      rw [str_eq rfl]
      walk_at "ss"
      refine ⟨p3, _, rfl, .inl (SqL.of g3), ?_⟩
      walk_at "ss"
      refine if_tt rfl ?_
      walk_at "ss"
      refine c_ixT (SqT.of ha3) rfl ?_
      walk_at "ss"
      refine isi (ty_str _) kb_ss ?_
      walk_at "ss"
      refine c_ixT (SqT.of ha3) rfl ?_
      walk_at "ss"
      refine ⟨rfl, fun p4 H4 hp4 e4 g4 => ?_⟩
      refine c_in (.inl (SqL.of g4)) rfl flat_strs ?_
      rw [in_ops gop]
      walk_at "ss"
      refine c_ixT (SqT.of (e4 _ _ ha3)) rfl ?_
      walk_at "ss"
      refine c_ixL (SqL.of (e4 _ _ g3)) rfl ?_
      walk_at "ss"
      refine c_ixL (SqL.of (e4 _ _ g3)) rfl ?_
      walk_at "ss"
      exact mk_Two gop (k0.up e4) (k1.up e4) (by omega) (by omega) (k.up (e03.trans e4))
    | nt tx =>
      obtain ⟨a, v1, rfl, ha, h_tx⟩ := ht
      have g_tx : tx.good := hg
      simp only [Tm.dep] at hd hd0
      walk_at "ss"
      rw [int_ne (by omega)]
      walk_at "ss"
      refine isi (ty_tup ha) kb_tt ?_
      walk_at "ss"
      refine ⟨a, _, rfl, .inr (SqT.of ha), ?_⟩
      walk_at "ss"
      refine if_ff rfl ?_
      walk_at "ss"
      refine c_ixT (SqT.of ha) rfl ?_
      walk_at "ss"
      refine isi (ty_str _) kb_ss ?_
      walk_at "ss"
      refine c_ixT (SqT.of ha) rfl ?_
      walk_at "ss"
      refine newT fun p1 H1 hp1 e1 g1 => ?_
      refine c_in (.inr (SqT.of g1)) rfl rfl ?_
      have ha1 := e1 _ _ ha
      rw [show inV (V.str "not") [V.str "name", V.str "value"] = false from by decide +kernel]
      walk_at "ss"
      rw [str_ne (by decide +kernel)]
      walk_at "ss"
      refine .inr ⟨_, rfl, ?_⟩
      walk_at "ss"
      refine ⟨a, _, rfl, SqT.of ha1, fun z => absurd (show (1 : Nat) = 0 from z.1) (by decide), fun p2 hp2 => ?_⟩
      have e2 : Ex H1 (upd H1 p2 (.tup [v1])) := Ex.new hp2
      have g2 : upd H1 p2 (.tup [v1]) p2 = some (.tup [v1]) := upd_same
      show ∃ a, _
      rw [show cutV [V.str "not", v1] _ none = [v1] from rfl]
      generalize upd H1 p2 (.tup [v1]) = H2 at e2 g2
      have e12 := e1.trans e2
      refine ⟨p2, rfl, ⟨_, SqT.of g2⟩, lcTN (fun i y G => ∃ t, ([tx] : List Tm)[i]? = some t ∧ TermAt Z G t y) (fun i y G G2 en ⟨t, h1, h2⟩ => ⟨t, h1, h2.keep (NL.ins en)⟩) (SqT.of g2) (by simp) (fun i x hx => ?_) ?_⟩
      · intro H3 e3 R N hR
        have hi : i < 1 := by simpa using (List.getElem?_eq_some_iff.mp hx).1
        walk_at "ss"
        have go : ∃ t, ([tx] : List Tm)[i]? = some t ∧ ToldAt H t x ∧ t.good ∧ t.dep + 1 ≤ l := by
          have hi' : i = 0 := by omega
          rcases hi' with rfl
          · have hv : v1 = x := by simpa using hx
            subst hv
            exact ⟨tx, rfl, h_tx, g_tx, by omega⟩
        obtain ⟨t, ht1, ht2, ht3, ht4⟩ := go
        have el : ((l : Nat) : Int) - 1 = ((l - 1 : Nat) : Int) := by omega
        rw [el]
        refine ⟨t, x, l - 1, rfl, ht2.up (e12.trans e3), ht3, by omega, by omega, by omega, fun v H4 e4 tv => ?_⟩
        exact hR _ _ e4 ⟨t, ht1, tv⟩
      intro ys p3 H3 hyl hys hp3 e3 g3
      obtain ⟨y0, rfl⟩ : ∃ y0, ys = [y0] := by
        match ys, hyl with
        | [y0], _ => exact ⟨y0, rfl⟩
      have k0 : TermAt Z H3 tx y0 := by
        obtain ⟨t, h1, h2⟩ := hys 0 y0 rfl
        have : tx = t := by simpa using h1
        subst this
        exact h2
      have e03 := e12.trans e3
      have ha3 := e03 _ _ ha
      walk_at "ss"
      refine c_noneIn (SqL.of g3) (fun z hz => ?_) (fun z hz => ?_) ?_
      · obtain ⟨i, hi⟩ := List.getElem?_of_mem hz
        obtain ⟨t, _, h2⟩ := hys i z hi
        exact h2.noneOr T
      · obtain ⟨i, hi⟩ := List.getElem?_of_mem hz
        obtain ⟨t, _, h2⟩ := hys i z hi
        obtain ⟨aa, _, _, rfl, _⟩ := h2.cls
        exact fun z => by cases z
      walk_at "ss"
      rw [str_ne (by decide +kernel)]
      walk_at "ss"
      rw [str_eq rfl]
      walk_at "ss"
      refine ⟨p3, _, rfl, .inl (SqL.of g3), ?_⟩
      walk_at "ss"
      refine if_tt rfl ?_
      walk_at "ss"
      refine c_ixL (SqL.of g3) rfl ?_
      walk_at "ss"
      exact mk_Not k0 (by omega) (k.up e03)
    | pk tc tx ty =>
      obtain ⟨a, v0, v1, v2, rfl, ha, h_tc, h_tx, h_ty⟩ := ht
      obtain ⟨g_tc, g_tx, g_ty⟩ := hg
      simp only [Tm.dep] at hd hd0
      walk_at "ss"
      rw [int_ne (by omega)]
      walk_at "ss"
      refine isi (ty_tup ha) kb_tt ?_
      walk_at "ss"
      refine ⟨a, _, rfl, .inr (SqT.of ha), ?_⟩
      walk_at "ss"
      refine if_ff rfl ?_
      walk_at "ss"
      refine c_ixT (SqT.of ha) rfl ?_
      walk_at "ss"
      refine isi (ty_str _) kb_ss ?_
      walk_at "ss"
      refine c_ixT (SqT.of ha) rfl ?_
      walk_at "ss"
      refine newT fun p1 H1 hp1 e1 g1 => ?_
      refine c_in (.inr (SqT.of g1)) rfl rfl ?_
      have ha1 := e1 _ _ ha
      rw [show inV (V.str "pick") [V.str "name", V.str "value"] = false from by decide +kernel]
      walk_at "ss"
      rw [str_ne (by decide +kernel)]
      walk_at "ss"
      refine .inr ⟨_, rfl, ?_⟩
      walk_at "ss"
      refine ⟨a, _, rfl, SqT.of ha1, fun z => absurd (show (1 : Nat) = 0 from z.1) (by decide), fun p2 hp2 => ?_⟩
      have e2 : Ex H1 (upd H1 p2 (.tup [v0, v1, v2])) := Ex.new hp2
      have g2 : upd H1 p2 (.tup [v0, v1, v2]) p2 = some (.tup [v0, v1, v2]) := upd_same
      show ∃ a, _
      rw [show cutV [V.str "pick", v0, v1, v2] _ none = [v0, v1, v2] from rfl]
      generalize upd H1 p2 (.tup [v0, v1, v2]) = H2 at e2 g2
      have e12 := e1.trans e2
      refine ⟨p2, rfl, ⟨_, SqT.of g2⟩, lcTN (fun i y G => ∃ t, ([tc, tx, ty] : List Tm)[i]? = some t ∧ TermAt Z G t y) (fun i y G G2 en ⟨t, h1, h2⟩ => ⟨t, h1, h2.keep (NL.ins en)⟩) (SqT.of g2) (by simp) (fun i x hx => ?_) ?_⟩
      · intro H3 e3 R N hR
        have hi : i < 3 := by simpa using (List.getElem?_eq_some_iff.mp hx).1
        walk_at "ss"
        have go : ∃ t, ([tc, tx, ty] : List Tm)[i]? = some t ∧ ToldAt H t x ∧ t.good ∧ t.dep + 1 ≤ l := by
          have hi' : i = 0 ∨ i = 1 ∨ i = 2 := by omega
          rcases hi' with rfl | rfl | rfl
          · have hv : v0 = x := by simpa using hx
            subst hv
            exact ⟨tc, rfl, h_tc, g_tc, by omega⟩
          · have hv : v1 = x := by simpa using hx
            subst hv
            exact ⟨tx, rfl, h_tx, g_tx, by omega⟩
          · have hv : v2 = x := by simpa using hx
            subst hv
            exact ⟨ty, rfl, h_ty, g_ty, by omega⟩
        obtain ⟨t, ht1, ht2, ht3, ht4⟩ := go
        have el : ((l : Nat) : Int) - 1 = ((l - 1 : Nat) : Int) := by omega
        rw [el]
        refine ⟨t, x, l - 1, rfl, ht2.up (e12.trans e3), ht3, by omega, by omega, by omega, fun v H4 e4 tv => ?_⟩
        exact hR _ _ e4 ⟨t, ht1, tv⟩
      intro ys p3 H3 hyl hys hp3 e3 g3
      obtain ⟨y0, y1, y2, rfl⟩ : ∃ y0 y1 y2, ys = [y0, y1, y2] := by
        match ys, hyl with
        | [y0, y1, y2], _ => exact ⟨y0, y1, y2, rfl⟩
      have k0 : TermAt Z H3 tc y0 := by
        obtain ⟨t, h1, h2⟩ := hys 0 y0 rfl
        have : tc = t := by simpa using h1
        subst this
        exact h2
      have k1 : TermAt Z H3 tx y1 := by
        obtain ⟨t, h1, h2⟩ := hys 1 y1 rfl
        have : tx = t := by simpa using h1
        subst this
        exact h2
      have k2 : TermAt Z H3 ty y2 := by
        obtain ⟨t, h1, h2⟩ := hys 2 y2 rfl
        have : ty = t := by simpa using h1
        subst this
        exact h2
      have e03 := e12.trans e3
      have ha3 := e03 _ _ ha
      walk_at "ss"
      refine c_noneIn (SqL.of g3) (fun z hz => ?_) (fun z hz => ?_) ?_
      · obtain ⟨i, hi⟩ := List.getElem?_of_mem hz
        obtain ⟨t, _, h2⟩ := hys i z hi
        exact h2.noneOr T
      · obtain ⟨i, hi⟩ := List.getElem?_of_mem hz
        obtain ⟨t, _, h2⟩ := hys i z hi
        obtain ⟨aa, _, _, rfl, _⟩ := h2.cls
        exact fun z => by cases z
      walk_at "ss"
      rw [str_ne (by decide +kernel)]
      walk_at "ss"
      rw [str_ne (by decide +kernel)]
      walk_at "ss"
      rw [str_eq rfl]
      walk_at "ss"
      refine ⟨p3, _, rfl, .inl (SqL.of g3), ?_⟩
      walk_at "ss"
      refine if_tt rfl ?_
      walk_at "ss"
      refine c_ixL (SqL.of g3) rfl ?_
      walk_at "ss"
      refine c_ixL (SqL.of g3) rfl ?_
      walk_at "ss"
      refine c_ixL (SqL.of g3) rfl ?_
      walk_at "ss"
      exact mk_Pick k0 k1 k2 (by omega) (by omega) (by omega) (k.up e03)
theorem okn_made (T : Txt K mg Z) : ∀ n, FnOk P w K mg base CX0 (n + 12) Z.f_made_of_told Z.fd_made_of_told ["told", "left"] (sp_made Z n)
  | 0 => ⟨fun vs H Q E ⟨t, u, l, e, _⟩ => by rw [e]; rfl, fun _ _ _ _ _ _ _ _ _ _ _ _ _ ⟨t, u, l, _, _, _, h1, h2, _⟩ => by have := t.dep_pos; omega⟩
  | n + 1 => ok_made_of_told T (okn_made T n)
def sp_term_of (Z : Adr) : Sp := fun vs H Q _ => ∃ t u, vs = [u] ∧ ToldAt H t u ∧ t.good ∧ t.dep ≤ 5 ∧ RetM Z t H Q
theorem ok_term_of (T : Txt K mg Z)  : FnOk P w K mg base CX0 (18) Z.f_term_of Z.fd_term_of ["told"] (sp_term_of Z) := by
  refine T.F_term_of.ok sc_term_of (fun vs H Q E h => ?_) (fun cdv AA outer s H vs Q E hr h => ?_)
  · obtain ⟨t, u, rfl, _⟩ := h
    rfl
  · obtain ⟨t, u, rfl, ht, hg, hd, k⟩ := h
    have G_made_of_told := okn_made (P := P) (w := w) (base := base) T 5
    refine ⟨_, (pss_cons (ps_set (i := 1) sc_term_of.nd rfl (Or.inl rfl) (pe_call G_made_of_told (hr.mono (by omega)) rfl T.g_made_of_told T.F_made_of_told.kp T.b_made_of_told .nil pass0 (pa_cons (pv 0) (pa_cons (pe_gcst rfl T.c_MOST_LEVELS) pa_nil))))
      (pss_cons (ps_if (pt_cmpR op_isN (pv 1) pe_non (nomark _)) (pss_one ps_never) pss_nil)
      (pss_one (ps_ret (pv 1))))), ?_⟩
    walk_at "ss"
    refine ⟨t, u, 5, rfl, ht, hg, hd, Nat.le_refl _, Nat.le_refl _, fun v H1 e1 tv => ?_⟩
    walk_at "ss"
    have nv : decide (v = V.non) = false := by
      obtain ⟨aa, _, _, rfl, _⟩ := tv.cls
      rfl
    rw [nv]
    walk_at "ss"
    exact k _ _ e1 tv

/-! ### the law's own tellings -/
def sp_value_l : Sp := fun vs H Q _ => ∃ b, vs = [.ref b] ∧ BoxAt H b ∧ ∀ v H2, isVal v = true → ExB b H H2 → BoxAt H2 b → Q v H2
theorem at3i {x0 x1 x2 : Int} {d : Int} (h0 : 0 ≤ d) (h1 : d < 3) : ∃ m, atI [V.int x0, .int x1, .int x2] d = some (.int m) ∧ (m = x0 ∨ m = x1 ∨ m = x2) := by
  have : d = 0 ∨ d = 1 ∨ d = 2 := by omega
  rcases this with rfl | rfl | rfl
  · exact ⟨_, rfl, .inl rfl⟩
  · exact ⟨_, rfl, .inr (.inl rfl)⟩
  · exact ⟨_, rfl, .inr (.inr rfl)⟩
theorem ok_value_l (T : Txt K mg Z) : FnOk P w K mg base CX0 2 Z.f_value_l Z.fd_value_l ["_law_box_here"] sp_value_l := by
  have G_take_l := ok_take_l (P := P) (w := w) (base := base) T
  refine T.F_value_l.ok sc_value_l (fun vs H Q E h => ?_) (fun cdv AA outer s H vs Q E hr h => ?_)
  · obtain ⟨b, rfl, _⟩ := h
    rfl
  · obtain ⟨b, rfl, hB, k⟩ := h
    refine ⟨_, (pss_cons (ps_set (i := 1) sc_value_l.nd rfl (Or.inl rfl) (pe_call G_take_l (hr.mono (by omega)) rfl T.g_take_l T.F_take_l.kp T.b_take_l .nil pass0 (pa_cons (pv 0) (pa_cons pe_int pa_nil))))
      (pss_cons (ps_if (pt_cmpR op_lt (pv 1) pe_int (nomark _)) (pss_one (ps_ret (pe_cmpR op_eq (pv 1) pe_int (nomark _)))) pss_nil)
      (pss_cons (ps_if (pt_cmpR op_eq (pv 1) pe_int (nomark _)) (pss_one (ps_ret (pe_ix ix_list (pe_lst (pa_cons (pe_op op_pow pe_int pe_int) (pa_cons (pe_un un_neg (pe_op op_pow pe_int pe_int)) (pa_cons (pe_op op_sub (pe_op op_pow pe_int pe_int) pe_int) (pa_cons (pe_op op_sub pe_int (pe_op op_pow pe_int pe_int)) (pa_cons pe_int (pa_cons (pe_un un_neg pe_int) pa_nil))))))) (pe_call G_take_l (hr.mono (by omega)) rfl T.g_take_l T.F_take_l.kp T.b_take_l .nil pass0 (pa_cons (pv 0) (pa_cons pe_int pa_nil))) (fun _ _ => rfl)))) pss_nil)
      (pss_one (ps_ret (pe_op op_sub (pe_call G_take_l (hr.mono (by omega)) rfl T.g_take_l T.F_take_l.kp T.b_take_l .nil pass0 (pa_cons (pv 0) (pa_cons (pe_ix ix_list (pe_lst (pa_cons pe_int (pa_cons pe_int (pa_cons pe_int pa_nil)))) (pe_op op_sub (pv 1) pe_int) (fun _ _ => rfl)) pa_nil))) (pe_ix ix_list (pe_lst (pa_cons pe_int (pa_cons pe_int (pa_cons pe_int pa_nil)))) (pe_op op_sub (pv 1) pe_int) (fun _ _ => rfl)))))))), ?_⟩
    walk_at "ss"
    refine ⟨b, 6, rfl, hB, by decide, by decide, fun d H1 h0 h1 e1 b1 => ?_⟩
    walk_at "ss"
    refine if_cs (fun c1 => ?_) (fun c1 => ?_)
    · walk_at "ss"
      exact k _ _ rfl e1 b1
    have c1' := of_decide_eq_false c1
    walk_at "ss"
    refine if_cs (fun c2 => ?_) (fun c2 => ?_)
    · walk_at "ss"
      refine c_I ⟨by decide, by decide, by decide⟩ ?_
      walk_at "ss"
      refine c_I ⟨by decide, by decide, by decide⟩ ?_
      walk_at "ss"
      refine c_I ⟨by decide, by decide, by decide⟩ ?_
      walk_at "ss"
      refine c_I ⟨by decide, by decide, by decide⟩ ?_
      walk_at "ss"
      refine newL fun p H2 hp e2 g2 => ?_
      walk_at "ss"
      refine ⟨b, 6, rfl, BoxAt.up b1 e2, by decide, by decide, fun d2 H3 h20 h21 e3 b3 => ?_⟩
      obtain ⟨v, hv, hvm⟩ := at_in (xs := [V.int (10 ^ Int.toNat 9), .int (-10 ^ Int.toNat 9), .int (10 ^ Int.toNat 9 - 1), .int (1 - 10 ^ Int.toNat 9), .int 40000, .int (-40000)]) h20 h21
      have npb : p ≠ b := by
        obtain ⟨ob, hob⟩ := b1.some
        exact (ne_of_none hob hp).symm
      refine c_ixL (SqL.of (e3 _ _ npb g2)) hv ?_
      have hall : ([V.int (10 ^ Int.toNat 9), .int (-10 ^ Int.toNat 9), .int (10 ^ Int.toNat 9 - 1), .int (1 - 10 ^ Int.toNat 9), .int 40000, .int (-40000)] : List V).all isVal = true := by decide +kernel
      exact k _ _ (List.all_eq_true.mp hall v hvm) (e1.trans ((ExB.of e2).trans e3)) b3
    have c2' : d ≠ 2 := fun e => by rw [e] at c2; exact absurd c2 (by decide)
    walk_at "ss"
    refine newL fun p H2 hp e2 g2 => ?_
    walk_at "ss"
    obtain ⟨m, hm, hmm⟩ := at3i (x0 := 5) (x1 := 40) (x2 := 2000) (d := d - 3) (by omega) (by omega)
    refine c_ixL (SqL.of g2) hm ?_
    walk_at "ss"
    refine ⟨b, m, rfl, BoxAt.up b1 e2, by omega, by omega, fun d2 H3 h20 h21 e3 b3 => ?_⟩
    walk_at "ss"
    refine newL fun p4 H4 hp4 e4 g4 => ?_
    walk_at "ss"
    obtain ⟨m2, hm2, hmm2⟩ := at3i (x0 := 1) (x1 := 15) (x2 := 1000) (d := d - 3) (by omega) (by omega)
    refine c_ixL (SqL.of g4) hm2 ?_
    walk_at "ss"
    refine k _ _ ?_ (e1.trans ((ExB.of e2).trans (e3.trans (ExB.of e4)))) (BoxAt.up b3 e4)
    show (decide (-1000000000 ≤ d2 - m2) && decide (d2 - m2 ≤ 1000000000)) = true
    rw [decide_eq_true (by omega), decide_eq_true (by omega)] <;> rfl
def goodN (s : Str) : Prop := isPointed s = true ∧ s.length ≤ 80 ∧ OkT s
def sp_tl (n : Nat) : Sp := fun vs H Q _ => ∃ (b : Addr) (l : Nat) (nl : Addr) (ns : List Str), vs = [.ref b, .int (l : Nat), .ref nl] ∧ BoxAt H b ∧ H nl = some (.lst (ns.map V.str)) ∧ (∀ s ∈ ns, goodN s) ∧ 0 < ns.length ∧ ns.length ≤ 100 ∧ 1 ≤ l ∧ l ≤ n ∧
  ∀ t u H2, Tm.dep t ≤ l → t.good → ToldAt H2 t u → ExB b H H2 → BoxAt H2 b → Q u H2
theorem ok_told_l (T : Txt K mg Z) {n : Nat} (G_told_l : FnOk P w K mg base CX0 (n + 3) Z.f_told_l Z.fd_told_l ["_law_box_here", "_law_left", "_law_names_here"] (sp_tl n)) : FnOk P w K mg base CX0 (n + 4) Z.f_told_l Z.fd_told_l ["_law_box_here", "_law_left", "_law_names_here"] (sp_tl (n + 1)) := by
  have G_take_l := ok_take_l (P := P) (w := w) (base := base) T
  have G_value_l := ok_value_l (P := P) (w := w) (base := base) T
  refine T.F_told_l.ok sc_told_l (fun vs H Q E h => ?_) (fun cdv AA outer s H vs Q E hr h => ?_)
  · obtain ⟨b, l, nl, ns, rfl, _⟩ := h
    rfl
  · obtain ⟨b, l, nl, ns, rfl, hB, hnl, hg, hn0, hn1, hl1, hln, k⟩ := h
    have nlb : ∀ G, BoxAt G b → G nl = some (.lst (ns.map V.str)) → nl ≠ b := fun G hb h => box_ne hb h fun x y z e => by
      cases ns with
      | nil => simp at hn0
      | cons s ns => cases e
    refine ⟨_, (pss_cons (ps_set (i := 3) sc_told_l.nd rfl (Or.inl rfl) (pe_call G_take_l (hr.mono (by omega)) rfl T.g_take_l T.F_take_l.kp T.b_take_l .nil pass0 (pa_cons (pv 0) (pa_cons pe_int pa_nil))))
      (pss_cons (ps_if (PW.pt (pw_or (pt_cmpR op_eq (pv 1) pe_int (nomark _)) (pw_or1 (pt_cmpR op_lt (pv 3) pe_int (nomark _))))) (pss_cons (ps_if (pt_cmpR op_eq (pe_call G_take_l (hr.mono (by omega)) rfl T.g_take_l T.F_take_l.kp T.b_take_l .nil pass0 (pa_cons (pv 0) (pa_cons pe_int pa_nil))) pe_int (nomark _)) (pss_one (ps_ret (pe_tup (pa_cons pe_str (pa_cons (pe_call G_value_l (hr.mono (by omega)) rfl T.g_value_l T.F_value_l.kp T.b_value_l .nil pass0 (pa_cons (pv 0) pa_nil)) pa_nil))))) pss_nil)
      (pss_one (ps_ret (pe_tup (pa_cons pe_str (pa_cons (pe_ix ix_list (pv 2) (pe_call G_take_l (hr.mono (by omega)) rfl T.g_take_l T.F_take_l.kp T.b_take_l .nil pass0 (pa_cons (pv 0) (pa_cons (pe_callB call_len_seq (by rfl) T.n_len (by decide +kernel) (pa_cons (pv 2) pa_nil)) pa_nil))) (fun _ _ => rfl)) pa_nil)))))) pss_nil)
      (pss_cons (ps_if (pt_cmpR op_eq (pv 3) pe_int (nomark _)) (pss_one (ps_ret (pe_tup (pa_cons pe_str (pa_cons (pe_call G_told_l (hr.mono (by omega)) rfl T.g_told_l T.F_told_l.kp T.b_told_l .nil pass0 (pa_cons (pv 0) (pa_cons (pe_op op_sub (pv 1) pe_int) (pa_cons (pv 2) pa_nil)))) pa_nil))))) pss_nil)
      (pss_cons (ps_if (pt_cmpR op_eq (pv 3) pe_int (nomark _)) (pss_cons (ps_setLc (i := 4) (own := [("_law_k", 5)]) (g := (gName 5)) (tt := tYes) (te := (tCall (sp_tl n) [] E0 (tCons (tVar 0) (tCons (tOp (rI0 fun i j => .int (i - j)) (tVar 1) (tC (.int 1))) (tCons (tVar 2) tNil))))) rfl sc_told_l.nd rfl rfl (sw_true rfl rfl rfl (by decide +kernel)) (pi_range1 (by rfl) T.n_range (pa_cons pe_int pa_nil)) (blkOk_by (own := [("_law_k", 5)]) (N := N_told_l) (sc := defScope s_told_l) (by decide +kernel)) (fun _ _ _ _ _ => (pg_name (i := 5) sc_told_l.nd rfl (Or.inl rfl))) (fun _ _ _ _ _ => pts_nil) (fun _ _ _ _ _ => (pe_call G_told_l (hr.mono (by omega)) rfl T.g_told_l T.F_told_l.kp T.b_told_l .nil pass0 (pa_cons (pv 0) (pa_cons (pe_op op_sub (pv 1) pe_int) (pa_cons (pv 2) pa_nil))))))
      (pss_one (ps_ret (pe_tup (pa_cons pe_str (pa_cons (pe_ix ix_list (pv 4) pe_int (fun _ _ => rfl)) (pa_cons (pe_ix ix_list (pv 4) pe_int (fun _ _ => rfl)) (pa_cons (pe_ix ix_list (pv 4) pe_int (fun _ _ => rfl)) pa_nil)))))))) pss_nil)
      (pss_cons (ps_set (i := 6) sc_told_l.nd rfl (Or.inl rfl) (pe_ix ix_list (pe_lst (pa_cons pe_str (pa_cons pe_str (pa_cons pe_str (pa_cons pe_str (pa_cons pe_str (pa_cons pe_str (pa_cons pe_str (pa_cons pe_str (pa_cons pe_str pa_nil)))))))))) (pe_call G_take_l (hr.mono (by omega)) rfl T.g_take_l T.F_take_l.kp T.b_take_l .nil pass0 (pa_cons (pv 0) (pa_cons pe_int pa_nil))) (fun _ _ => rfl)))
      (pss_cons (ps_set (i := 7) sc_told_l.nd rfl (Or.inl rfl) (pe_call G_told_l (hr.mono (by omega)) rfl T.g_told_l T.F_told_l.kp T.b_told_l .nil pass0 (pa_cons (pv 0) (pa_cons (pe_op op_sub (pv 1) pe_int) (pa_cons (pv 2) pa_nil)))))
      (pss_one (ps_ret (pe_tup (pa_cons pe_str (pa_cons (pv 6) (pa_cons (pv 7) (pa_cons (pe_call G_told_l (hr.mono (by omega)) rfl T.g_told_l T.F_told_l.kp T.b_told_l .nil pass0 (pa_cons (pv 0) (pa_cons (pe_op op_sub (pv 1) pe_int) (pa_cons (pv 2) pa_nil)))) pa_nil))))))))))))), ?_⟩
    walk_at "ss"
    refine ⟨b, 8, rfl, hB, by decide, by decide, fun d H1 h0 h1 e1 b1 => ?_⟩
    have hnH := hnl
    have hn1' := hn1
    have hn1 := e1 _ _ (nlb H hB hnl) hnl
    walk_at "ss"
    refine if_cs (fun c1 => ?_) (fun c1 => ?_)
    · walk_at "ss"
      refine ⟨b, 3, rfl, b1, by decide, by decide, fun d2 H2 _ _ e2 b2 => ?_⟩
      walk_at "ss"
      refine if_cs (fun _ => ?_) (fun _ => ?_)
      · walk_at "ss"
        refine ⟨b, rfl, b2, fun v H3 hv e3 b3 => ?_⟩
        walk_at "ss"
        exact newT fun p H4 hp e4 g4 => k (.vl v) _ H4 (by show 1 ≤ l; omega) hv ⟨p, rfl, g4⟩ (e1.trans (e2.trans (e3.trans (ExB.of e4)))) (BoxAt.up b3 e4)
      · walk_at "ss"
        have hn2 := e2 _ _ (nlb H1 b1 hn1) hn1
        refine ⟨nl, _, rfl, .inl (SqL.of hn2), ?_⟩
        walk_at "ss"
        refine ⟨b, _, rfl, b2, by rw [List.length_map]; omega, by rw [List.length_map]; omega, fun d3 H3 h30 h31 e3 b3 => ?_⟩
        obtain ⟨v, hv, hvm⟩ := at_in (xs := ns.map V.str) h30 h31
        obtain ⟨s, hs, rfl⟩ := List.mem_map.mp hvm
        refine c_ixL (SqL.of (e3 _ _ (nlb H2 b2 hn2) hn2)) hv ?_
        walk_at "ss"
        exact newT fun p H4 hp e4 g4 => k (.nm s) _ H4 (by show 1 ≤ l; omega) (hg s hs) ⟨p, rfl, g4⟩ (e1.trans (e2.trans (e3.trans (ExB.of e4)))) (BoxAt.up b3 e4)
    have c1' : l ≠ 1 := fun e => by rw [e] at c1; exact absurd c1 (by decide)
    walk_at "ss"
    refine if_cs (fun c2 => ?_) (fun c2 => ?_)
    · walk_at "ss"
      refine ⟨b, 3, rfl, b1, by decide, by decide, fun d2 H2 _ _ e2 b2 => ?_⟩
      walk_at "ss"
      refine if_cs (fun _ => ?_) (fun _ => ?_)
      · walk_at "ss"
        refine ⟨b, rfl, b2, fun v H3 hv e3 b3 => ?_⟩
        walk_at "ss"
        exact newT fun p H4 hp e4 g4 => k (.vl v) _ H4 (by show 1 ≤ l; omega) hv ⟨p, rfl, g4⟩ (e1.trans (e2.trans (e3.trans (ExB.of e4)))) (BoxAt.up b3 e4)
      · walk_at "ss"
        have hn2 := e2 _ _ (nlb H1 b1 hn1) hn1
        refine ⟨nl, _, rfl, .inl (SqL.of hn2), ?_⟩
        walk_at "ss"
        refine ⟨b, _, rfl, b2, by rw [List.length_map]; omega, by rw [List.length_map]; omega, fun d3 H3 h30 h31 e3 b3 => ?_⟩
        obtain ⟨v, hv, hvm⟩ := at_in (xs := ns.map V.str) h30 h31
        obtain ⟨s, hs, rfl⟩ := List.mem_map.mp hvm
        refine c_ixL (SqL.of (e3 _ _ (nlb H2 b2 hn2) hn2)) hv ?_
        walk_at "ss"
        exact newT fun p H4 hp e4 g4 => k (.nm s) _ H4 (by show 1 ≤ l; omega) (hg s hs) ⟨p, rfl, g4⟩ (e1.trans (e2.trans (e3.trans (ExB.of e4)))) (BoxAt.up b3 e4)
    have el : ((l : Nat) : Int) - 1 = ((l - 1 : Nat) : Int) := by omega
    walk_at "ss"
    refine if_cs (fun c3 => ?_) (fun c3 => ?_)
    · walk_at "ss"
      rw [el]
      refine ⟨b, l - 1, nl, ns, rfl, b1, hn1, hg, hn0, hn1', by omega, by omega, fun t u H2 hd gt tt e2 b2 => ?_⟩
      walk_at "ss"
      exact newT fun p H4 hp e4 g4 => k (.nt t) _ H4 (by show 1 + t.dep ≤ l; omega) gt ⟨p, _, rfl, g4, tt.up e4⟩ (e1.trans (e2.trans (ExB.of e4))) (BoxAt.up b2 e4)
    walk_at "ss"
    refine if_cs (fun c4 => ?_) (fun c4 => ?_)
    · walk_at "ss"
      refine ⟨by decide, by decide, ?_⟩
      refine lcRN (b := b) (fun i y G => ∃ t, Tm.dep t ≤ l - 1 ∧ t.good ∧ ToldAt G t y) (fun i y G G2 en ⟨t, h1, h2, h3⟩ => ⟨t, h1, h2, h3.keep (NL.tups en)⟩) (by decide) b1 (fun i hi H2 b2 e2 R N hR => ?_) ?_
      · walk_at "ss"
        rw [el]
        refine ⟨b, l - 1, nl, ns, rfl, b2, e2 _ _ (nlb H1 b1 hn1) hn1, hg, hn0, hn1', by omega, by omega, fun t u H3 hd gt tt e3 b3 => ?_⟩
        exact hR _ _ e3 b3 ⟨t, hd, gt, tt⟩
      intro ys p H2 hyl hys hp e2 b2 g2
      obtain ⟨y0, y1, y2, rfl⟩ : ∃ y0 y1 y2, ys = [y0, y1, y2] := by
        match ys, hyl with
        | [y0, y1, y2], _ => exact ⟨y0, y1, y2, rfl⟩
      obtain ⟨t0, d0, gt0, k0⟩ := hys 0 y0 rfl
      obtain ⟨t1, d1, gt1, k1⟩ := hys 1 y1 rfl
      obtain ⟨t2, d2, gt2, k2⟩ := hys 2 y2 rfl
      walk_at "ss"
      refine c_ixL (SqL.of g2) rfl ?_
      walk_at "ss"
      refine c_ixL (SqL.of g2) rfl ?_
      walk_at "ss"
      refine c_ixL (SqL.of g2) rfl ?_
      walk_at "ss"
      exact newT fun p H4 hp e4 g4 => k (.pk t0 t1 t2) _ H4 (by show 1 + max (max t0.dep t1.dep) t2.dep ≤ l; omega) ⟨gt0, gt1, gt2⟩ ⟨p, _, _, _, rfl, g4, k0.up e4, k1.up e4, k2.up e4⟩ (e1.trans (e2.trans (ExB.of e4))) (BoxAt.up b2 e4)
    walk_at "ss"
    refine newL fun p H2 hp e2 g2 => ?_
    walk_at "ss"
    refine ⟨b, 9, rfl, BoxAt.up b1 e2, by decide, by decide, fun d3 H3 h30 h31 e3 b3 => ?_⟩
    obtain ⟨v, hv, hvm⟩ := at_in (xs := opsW.map V.str) h30 h31
    obtain ⟨op, hop, rfl⟩ := List.mem_map.mp hvm
    have npb : p ≠ b := by
      obtain ⟨ob, hob⟩ := b1.some
      exact (ne_of_none hob hp).symm
    refine c_ixL (SqL.of (e3 _ _ npb g2)) hv ?_
    walk_at "ss"
    rw [el]
    have hn2 := e2 _ _ hn1
    have hn3 := e3 _ _ (nlb H2 (BoxAt.up b1 e2) hn2) hn2
    refine ⟨b, l - 1, nl, ns, rfl, b3, hn3, hg, hn0, hn1', by omega, by omega, fun t1 u1 H4 hd1 gt1 tt1 e4 b4 => ?_⟩
    walk_at "ss"
    rw [el]
    refine ⟨b, l - 1, nl, ns, rfl, b4, e4 _ _ (nlb H3 b3 hn3) hn3, hg, hn0, hn1', by omega, by omega, fun t2 u2 H5 hd2 gt2 tt2 e5 b5 => ?_⟩
    walk_at "ss"
    exact newT fun p H6 hp e6 g6 => k (.two op t1 t2) _ H6 (by show 1 + max t1.dep t2.dep ≤ l; omega) ⟨hop, gt1, gt2⟩ ⟨p, _, _, rfl, g6, (tt1.upB e5 b4).up e6, tt2.up e6⟩ (e1.trans ((ExB.of e2).trans (e3.trans (e4.trans (e5.trans (ExB.of e6)))))) (BoxAt.up b5 e6)
theorem okn_told (T : Txt K mg Z) : ∀ n, FnOk P w K mg base CX0 (n + 3) Z.f_told_l Z.fd_told_l ["_law_box_here", "_law_left", "_law_names_here"] (sp_tl n)
  | 0 => ⟨fun vs H Q E ⟨b, l, nl, ns, e, _⟩ => by rw [e]; rfl, fun _ _ _ _ _ _ _ _ _ _ _ _ _ ⟨b, l, nl, ns, _, _, _, _, _, _, h1, h2, _⟩ => by omega⟩
  | n + 1 => ok_told_l T (okn_told T n)

/-! ### the law's own readings of what was told -/
def sp_mk (Z : Adr) (n : Nat) : Sp := fun vs H Q _ => ∃ (t : Tm) (u : V), vs = [u] ∧ ToldAt H t u ∧ t.good ∧ t.dep ≤ n ∧ t.dep ≤ 5 ∧ RetM Z t H Q
theorem ok_made_l (T : Txt K mg Z) {n : Nat} (G_made_l : FnOk P w K mg base CX0 (n + 12) Z.f_made_l Z.fd_made_l ["_law_told_here"] (sp_mk Z n)) : FnOk P w K mg base CX0 (n + 13) Z.f_made_l Z.fd_made_l ["_law_told_here"] (sp_mk Z (n + 1)) := by
  have G_Name_init := ok_Name_init (P := P) (w := w) (base := base) T
  have G_Value_init := ok_Value_init (P := P) (w := w) (base := base) T
  have G_Two_init := ok_Two_init (P := P) (w := w) (base := base) T
  have G_Not_init := ok_Not_init (P := P) (w := w) (base := base) T
  have G_Pick_init := ok_Pick_init (P := P) (w := w) (base := base) T
  refine T.F_made_l.ok sc_made_l (fun vs H Q E h => ?_) (fun cdv AA outer s H vs Q E hr h => ?_)
  · obtain ⟨t, u, rfl, _⟩ := h
    rfl
  · obtain ⟨t, u, rfl, ht, hg, hd, h5, k⟩ := h
    refine ⟨_, (pss_cons (ps_if (pt_cmpR op_eq (pe_ix ix_tup (pv 0) pe_int (fun _ _ => rfl)) pe_str (nomark _)) (pss_one (ps_ret (pe_make ⟨(tcB_ok T.x_Name).makes, T.i_Name, T.y_Name_init, (tcB_ok T.x_Name).kp⟩ G_Name_init (hr.mono (by omega)) rfl T.m_Name T.b_Name_init .nil pass0 (pa_cons (pe_ix ix_tup (pv 0) pe_int (fun _ _ => rfl)) pa_nil)))) pss_nil)
      (pss_cons (ps_if (pt_cmpR op_eq (pe_ix ix_tup (pv 0) pe_int (fun _ _ => rfl)) pe_str (nomark _)) (pss_one (ps_ret (pe_make ⟨(tcB_ok T.x_Value).makes, T.i_Value, T.y_Value_init, (tcB_ok T.x_Value).kp⟩ G_Value_init (hr.mono (by omega)) rfl T.m_Value T.b_Value_init .nil pass0 (pa_cons (pe_ix ix_tup (pv 0) pe_int (fun _ _ => rfl)) pa_nil)))) pss_nil)
      (pss_cons (ps_if (pt_cmpR op_eq (pe_ix ix_tup (pv 0) pe_int (fun _ _ => rfl)) pe_str (nomark _)) (pss_one (ps_ret (pe_make ⟨(tcB_ok T.x_Not).makes, T.i_Not, T.y_Not_init, (tcB_ok T.x_Not).kp⟩ G_Not_init (hr.mono (by omega)) rfl T.m_Not T.b_Not_init .nil pass0 (pa_cons (pe_call G_made_l (hr.mono (by omega)) rfl T.g_made_l T.F_made_l.kp T.b_made_l .nil pass0 (pa_cons (pe_ix ix_tup (pv 0) pe_int (fun _ _ => rfl)) pa_nil)) pa_nil)))) pss_nil)
      (pss_cons (ps_if (pt_cmpR op_eq (pe_ix ix_tup (pv 0) pe_int (fun _ _ => rfl)) pe_str (nomark _)) (pss_one (ps_ret (pe_make ⟨(tcB_ok T.x_Pick).makes, T.i_Pick, T.y_Pick_init, (tcB_ok T.x_Pick).kp⟩ G_Pick_init (hr.mono (by omega)) rfl T.m_Pick T.b_Pick_init .nil pass0 (pa_cons (pe_call G_made_l (hr.mono (by omega)) rfl T.g_made_l T.F_made_l.kp T.b_made_l .nil pass0 (pa_cons (pe_ix ix_tup (pv 0) pe_int (fun _ _ => rfl)) pa_nil)) (pa_cons (pe_call G_made_l (hr.mono (by omega)) rfl T.g_made_l T.F_made_l.kp T.b_made_l .nil pass0 (pa_cons (pe_ix ix_tup (pv 0) pe_int (fun _ _ => rfl)) pa_nil)) (pa_cons (pe_call G_made_l (hr.mono (by omega)) rfl T.g_made_l T.F_made_l.kp T.b_made_l .nil pass0 (pa_cons (pe_ix ix_tup (pv 0) pe_int (fun _ _ => rfl)) pa_nil)) pa_nil)))))) pss_nil)
      (pss_one (ps_ret (pe_make ⟨(tcB_ok T.x_Two).makes, T.i_Two, T.y_Two_init, (tcB_ok T.x_Two).kp⟩ G_Two_init (hr.mono (by omega)) rfl T.m_Two T.b_Two_init .nil pass0 (pa_cons (pe_ix ix_tup (pv 0) pe_int (fun _ _ => rfl)) (pa_cons (pe_call G_made_l (hr.mono (by omega)) rfl T.g_made_l T.F_made_l.kp T.b_made_l .nil pass0 (pa_cons (pe_ix ix_tup (pv 0) pe_int (fun _ _ => rfl)) pa_nil)) (pa_cons (pe_call G_made_l (hr.mono (by omega)) rfl T.g_made_l T.F_made_l.kp T.b_made_l .nil pass0 (pa_cons (pe_ix ix_tup (pv 0) pe_int (fun _ _ => rfl)) pa_nil)) pa_nil)))))))))), ?_⟩
    cases t with
    | nm s =>
      obtain ⟨a, rfl, ha⟩ := ht
      walk_at "ss"
      refine c_ixT (SqT.of ha) rfl ?_
      walk_at "ss"
      rw [str_eq rfl]
      walk_at "ss"
      refine c_ixT (SqT.of ha) rfl ?_
      walk_at "ss"
      exact mk_Name hg.1 (by have := hg.2.1; omega) k
    | vl v =>
      obtain ⟨a, rfl, ha⟩ := ht
      walk_at "ss"
      refine c_ixT (SqT.of ha) rfl ?_
      walk_at "ss"
      rw [str_ne (by decide +kernel)]
      walk_at "ss"
      refine c_ixT (SqT.of ha) rfl ?_
      walk_at "ss"
      rw [str_eq rfl]
      walk_at "ss"
      refine c_ixT (SqT.of ha) rfl ?_
      walk_at "ss"
      exact mk_Value hg k
    | two op tx ty =>
      obtain ⟨a, v1, v2, rfl, ha, h1, h2⟩ := ht
      obtain ⟨gop, g1, g2⟩ := hg
      simp only [Tm.dep] at hd h5
      walk_at "ss"
      refine c_ixT (SqT.of ha) rfl ?_
      walk_at "ss"
      rw [str_ne (by decide +kernel)]
      walk_at "ss"
      refine c_ixT (SqT.of ha) rfl ?_
      walk_at "ss"
      rw [str_ne (by decide +kernel)]
      walk_at "ss"
      refine c_ixT (SqT.of ha) rfl ?_
      walk_at "ss"
      rw [str_ne (by decide +kernel)]
      walk_at "ss"
      refine c_ixT (SqT.of ha) rfl ?_
      walk_at "ss"
      rw [str_ne (by decide +kernel)]
      walk_at "ss"
      refine c_ixT (SqT.of ha) rfl ?_
      walk_at "ss"
      refine c_ixT (SqT.of ha) rfl ?_
      walk_at "ss"
      refine ⟨tx, v1, rfl, h1, g1, by omega, by omega, fun w1 H1 e1 t1 => ?_⟩
      walk_at "ss"
      refine c_ixT (SqT.of (e1 _ _ ha)) rfl ?_
      walk_at "ss"
      refine ⟨ty, v2, rfl, h2.up e1, g2, by omega, by omega, fun w2 H2 e2 t2 => ?_⟩
      walk_at "ss"
      exact mk_Two gop (t1.up e2) t2 (by omega) (by omega) (k.up (e1.trans e2))
    | nt tx =>
      obtain ⟨a, v1, rfl, ha, h1⟩ := ht
      simp only [Tm.dep] at hd h5
      walk_at "ss"
      refine c_ixT (SqT.of ha) rfl ?_
      walk_at "ss"
      rw [str_ne (by decide +kernel)]
      walk_at "ss"
      refine c_ixT (SqT.of ha) rfl ?_
      walk_at "ss"
      rw [str_ne (by decide +kernel)]
      walk_at "ss"
      refine c_ixT (SqT.of ha) rfl ?_
      walk_at "ss"
      rw [str_eq rfl]
      walk_at "ss"
      refine c_ixT (SqT.of ha) rfl ?_
      walk_at "ss"
      refine ⟨tx, v1, rfl, h1, hg, by omega, by omega, fun w1 H1 e1 t1 => ?_⟩
      walk_at "ss"
      exact mk_Not t1 (by omega) (k.up e1)
    | pk tc tx ty =>
      obtain ⟨a, v0, v1, v2, rfl, ha, h0, h1, h2⟩ := ht
      obtain ⟨g0, g1, g2⟩ := hg
      simp only [Tm.dep] at hd h5
      walk_at "ss"
      refine c_ixT (SqT.of ha) rfl ?_
      walk_at "ss"
      rw [str_ne (by decide +kernel)]
      walk_at "ss"
      refine c_ixT (SqT.of ha) rfl ?_
      walk_at "ss"
      rw [str_ne (by decide +kernel)]
      walk_at "ss"
      refine c_ixT (SqT.of ha) rfl ?_
      walk_at "ss"
      rw [str_ne (by decide +kernel)]
      walk_at "ss"
      refine c_ixT (SqT.of ha) rfl ?_
      walk_at "ss"
      rw [str_eq rfl]
      walk_at "ss"
      refine c_ixT (SqT.of ha) rfl ?_
      walk_at "ss"
      refine ⟨tc, v0, rfl, h0, g0, by omega, by omega, fun w0 H0 e0 t0 => ?_⟩
      walk_at "ss"
      refine c_ixT (SqT.of (e0 _ _ ha)) rfl ?_
      walk_at "ss"
      refine ⟨tx, v1, rfl, h1.up e0, g1, by omega, by omega, fun w1 H1 e1 t1 => ?_⟩
      walk_at "ss"
      refine c_ixT (SqT.of (e1 _ _ (e0 _ _ ha))) rfl ?_
      walk_at "ss"
      refine ⟨ty, v2, rfl, h2.up (e0.trans e1), g2, by omega, by omega, fun w2 H2 e2 t2 => ?_⟩
      walk_at "ss"
      exact mk_Pick (t0.up (e1.trans e2)) (t1.up e2) t2 (by omega) (by omega) (by omega) (k.up (e0.trans (e1.trans e2)))
theorem okn_mk (T : Txt K mg Z) : ∀ n, FnOk P w K mg base CX0 (n + 12) Z.f_made_l Z.fd_made_l ["_law_told_here"] (sp_mk Z n)
  | 0 => ⟨fun vs H Q E ⟨t, u, e, _⟩ => by rw [e]; rfl, fun _ _ _ _ _ _ _ _ _ _ _ _ _ ⟨t, u, _, _, _, h1, _⟩ => by have := t.dep_pos; omega⟩
  | n + 1 => ok_made_l T (okn_mk T n)
theorem at_hd {x : V} {xs : List V} : atI (x :: xs) 0 = some x := atI_nat (j := 0) rfl
/-! what stands behind the first word -/
theorem told_cut {H : Hp} {t : Tm} {u : V} (h : ToldAt H t u) (hp : t.parts ≠ []) : ∃ (a : Addr) (w : Str) (xs us : List V), u = .ref a ∧ H a = some (.tup (.str w :: xs)) ∧ w ≠ "name" ∧ w ≠ "value" ∧ (xs ≠ [] ∧ cutV (.str w :: xs) (some (1 + if (decide (V.str w = V.str "two")) = true then 1 else 0)) none = us) ∧ us.length = t.parts.length ∧
    (¬ (HT.sIx (V.str w :: xs).length 0 (some (1 + if (decide (V.str w = V.str "two")) = true then 1 else 0)) = 0 ∧ HT.sIx (V.str w :: xs).length (V.str w :: xs).length none = (V.str w :: xs).length)) ∧ ∀ (i : Nat) (v : V), us[i]? = some v → ∃ p, t.parts[i]? = some p ∧ ToldAt H p v := by
  cases t with
  | nm s => exact absurd rfl hp
  | vl v => exact absurd rfl hp
  | two op p q =>
    obtain ⟨a, v1, v2, rfl, ha, h1, h2⟩ := h
    refine ⟨a, _, _, [v1, v2], rfl, ha, by decide +kernel, by decide +kernel, ⟨by simp, ?_⟩, rfl, ?_, ?_⟩
    · rw [str_eq rfl] <;> rfl
    · rw [str_eq rfl]; exact fun z => absurd (show (2 : Nat) = 0 from z.1) (by decide)
    · intro i v hv
      have hi : i < 2 := by simpa using (List.getElem?_eq_some_iff.mp hv).1
      have : i = 0 ∨ i = 1 := by omega
      rcases this with rfl | rfl
      · have : v1 = v := by simpa using hv
        subst this; exact ⟨p, rfl, h1⟩
      · have : v2 = v := by simpa using hv
        subst this; exact ⟨q, rfl, h2⟩
  | nt p =>
    obtain ⟨a, v1, rfl, ha, h1⟩ := h
    refine ⟨a, _, _, [v1], rfl, ha, by decide +kernel, by decide +kernel, ⟨by simp, ?_⟩, rfl, ?_, ?_⟩
    · rw [str_ne (by decide +kernel)] <;> rfl
    · rw [str_ne (by decide +kernel)]; exact fun z => absurd (show (1 : Nat) = 0 from z.1) (by decide)
    · intro i v hv
      have hi : i < 1 := by simpa using (List.getElem?_eq_some_iff.mp hv).1
      have : i = 0 := by omega
      subst this
      have : v1 = v := by simpa using hv
      subst this; exact ⟨p, rfl, h1⟩
  | pk c p q =>
    obtain ⟨a, v0, v1, v2, rfl, ha, h0, h1, h2⟩ := h
    refine ⟨a, _, _, [v0, v1, v2], rfl, ha, by decide +kernel, by decide +kernel, ⟨by simp, ?_⟩, rfl, ?_, ?_⟩
    · rw [str_ne (by decide +kernel)] <;> rfl
    · rw [str_ne (by decide +kernel)]; exact fun z => absurd (show (1 : Nat) = 0 from z.1) (by decide)
    · intro i v hv
      have hi : i < 3 := by simpa using (List.getElem?_eq_some_iff.mp hv).1
      have : i = 0 ∨ i = 1 ∨ i = 2 := by omega
      rcases this with rfl | rfl | rfl
      · have : v0 = v := by simpa using hv
        subst this; exact ⟨c, rfl, h0⟩
      · have : v1 = v := by simpa using hv
        subst this; exact ⟨p, rfl, h1⟩
      · have : v2 = v := by simpa using hv
        subst this; exact ⟨q, rfl, h2⟩
def sp_nml (n : Nat) : Sp := fun vs H Q _ => ∃ (t : Tm) (u : V), vs = [u] ∧ ToldAt H t u ∧ t.dep ≤ n ∧ t.dep ≤ 6 ∧ RetL (t.names.map V.str) H Q
theorem ok_names_l (T : Txt K mg Z) {n : Nat} (G_names_l : FnOk P w K mg base CX0 (n + 1) Z.f_names_l Z.fd_names_l ["_law_told_here"] (sp_nml n)) : FnOk P w K mg base CX0 (n + 2) Z.f_names_l Z.fd_names_l ["_law_told_here"] (sp_nml (n + 1)) := by
  refine T.F_names_l.ok sc_names_l (fun vs H Q E h => ?_) (fun cdv AA outer s H vs Q E hr h => ?_)
  · obtain ⟨t, u, rfl, _⟩ := h
    rfl
  · obtain ⟨t, u, rfl, ht, hd, h6, k⟩ := h
    refine ⟨_, (pss_cons (ps_if (pt_cmpR op_eq (pe_ix ix_tup (pv 0) pe_int (fun _ _ => rfl)) pe_str (nomark _)) (pss_one (ps_ret (pe_lst (pa_cons (pe_ix ix_tup (pv 0) pe_int (fun _ _ => rfl)) pa_nil)))) pss_nil)
      (pss_cons (ps_set (i := 1) sc_names_l.nd rfl (Or.inr rfl) (pe_lst pa_nil))
      (pss_cons (ps_if (pt_cmpR op_ne (pe_ix ix_tup (pv 0) pe_int (fun _ _ => rfl)) pe_str (nomark _)) (pss_one (ps_for PassesOwn.never rfl (pi_tup (pe_slice sl_tup (pv 0) (po_some (pe_op op_add pe_int (pe_callTy call_int1 (by rfl) T.n_int (by decide +kernel) (pa_cons (pe_cmpR op_eq (pe_ix ix_tup (pv 0) pe_int (fun _ _ => rfl)) pe_str (nomark _)) pa_nil)))) po_none)) (pg_name (i := 2) sc_names_l.nd rfl (Or.inl rfl)) (pss_one (ps_set (i := 1) sc_names_l.nd rfl (Or.inr rfl) (pe_op op_cat (pv 1) (pe_lc (own := [("_law_name", 3)]) (g := (gName 3)) (tt := (tTest (tOp (rIn K true) (tVar 3) (tVar 1)))) (te := (tVar 3)) rfl sc_names_l.nd (pi_list (pe_call G_names_l (hr.mono (by omega)) rfl T.g_names_l T.F_names_l.kp T.b_names_l .nil pass0 (pa_cons (pv 2) pa_nil))) (blkOk_by (own := [("_law_name", 3)]) (N := N_names_l) (sc := defScope s_names_l) (by decide +kernel)) (fun _ _ _ _ _ => (pg_name (i := 3) sc_names_l.nd rfl (Or.inl rfl))) (fun _ _ _ _ _ => (pts_one (pt_cmpR op_notIn_seq (pv 3) (pv 1) (by rfl)))) (fun _ _ _ _ _ => (pv 3)))))))) pss_nil)
      (pss_one (ps_ret (pv 1)))))), ?_⟩
    by_cases hp : t.parts = []
    · cases t with
      | nm s =>
        obtain ⟨a, rfl, ha⟩ := ht
        walk_at "ss"
        refine c_ixT (SqT.of ha) rfl ?_
        walk_at "ss"
        rw [str_eq rfl]
        walk_at "ss"
        refine c_ixT (SqT.of ha) rfl ?_
        walk_at "ss"
        exact newL k
      | vl v =>
        obtain ⟨a, rfl, ha⟩ := ht
        walk_at "ss"
        refine c_ixT (SqT.of ha) rfl ?_
        walk_at "ss"
        rw [str_ne (by decide +kernel)]
        walk_at "ss"
        refine newL fun f H1 hf e1 g1 => ?_
        walk_at "ss"
        refine c_ixT (SqT.of (e1 _ _ ha)) rfl ?_
        walk_at "ss"
        rw [str_eq rfl]
        walk_at "ss"
        exact k f H1 hf e1 g1
      | two op x y => exact absurd hp (by simp [Tm.parts])
      | nt x => exact absurd hp (by simp [Tm.parts])
      | pk c x y => exact absurd hp (by simp [Tm.parts])
    · obtain ⟨a, w0, xs, us, rfl, ha, hw1, hw2, ⟨_, hcut⟩, hul, hwh, hus⟩ := told_cut ht hp
      have hS : ∀ s, t ≠ .nm s := fun s e => hp (by rw [e]; rfl)
      walk_at "ss"
      refine c_ixT (SqT.of ha) at_hd ?_
      walk_at "ss"
      rw [str_ne hw1]
      walk_at "ss"
      refine newL fun f H1 hf e1 g1 => ?_
      have ha1 := e1 _ _ ha
      walk_at "ss"
      refine c_ixT (SqT.of ha1) at_hd ?_
      walk_at "ss"
      rw [str_ne hw2]
      walk_at "ss"
      refine c_ixT (SqT.of ha1) at_hd ?_
      walk_at "ss"
      refine .inr ⟨_, rfl, ?_⟩
      walk_at "ss"
      refine ⟨a, _, rfl, SqT.of ha1, hwh, fun p2 hp2 => ?_⟩
      rw [hcut]
      have e2 : Ex H1 (upd H1 p2 (.tup us)) := Ex.new hp2
      have g2 : upd H1 p2 (.tup us) p2 = some (.tup us) := upd_same
      generalize upd H1 p2 (.tup us) = H2 at e2 g2
      refine ⟨p2, rfl, ⟨_, SqT.of g2⟩, forT (xs := us) (fun i σ' G => (∃ v2 v3 f', σ' = [some (.ref a), some (.ref f'), v2, v3] ∧ G f' = some (.lst (((t.parts.take i).foldl (fun acc q => addN acc q.names) []).map V.str)) ∧ H f' = none) ∧ ((t.parts.take i).foldl (fun acc q => addN acc q.names) []).length ≤ i * 729 ∧ Ex H G ∧ G p2 = some (.tup us)) ⟨⟨_, _, f, rfl, e2 _ _ g1, hf⟩, Nat.zero_le _, e1.trans e2, g2⟩ (fun i σ' G _ q => SqT.of q.2.2.2) ?_ ?_⟩
      · rintro i x σ' G hx ⟨⟨v2, v3, f', rfl, gf, hf'⟩, hbd, eG, gp⟩
        obtain ⟨q, hq, hqx⟩ := hus i x hx
        have ef : (t.parts.take (i + 1)).foldl (fun acc q => addN acc q.names) [] = addN ((t.parts.take i).foldl (fun acc q => addN acc q.names) []) q.names := by
          rw [List.take_add_one, hq, List.foldl_append] <;> rfl
        have hi := (List.getElem?_eq_some_iff.mp hq).1
        have hl3 := t.parts_len
        generalize hF : (t.parts.take i).foldl (fun acc q => addN acc q.names) [] = F at gf ef hbd
        walk_at "ss"
        have hdp := Tm.dep_part (List.mem_of_getElem? hq)
        have hq7 := names_729 (t := q) (by omega)
        refine ⟨q, x, rfl, hqx.up eG, by omega, by omega, fun p5 H5 hp5 e5 g5 => ?_⟩
        refine ⟨p5, rfl, ⟨_, SqL.of g5⟩, lcLv (fun x => if inV x (F.map V.str) then none else some x) (SqL.of g5) (by rw [List.length_map]; omega) (fun x hx => ?_) ?_⟩
        · obtain ⟨s, hs, rfl⟩ := List.mem_map.mp hx
          intro H6 e6 R hR
          walk_at "ss"
          refine c_notin (.inl (SqL.of (e6 _ _ (e5 _ _ gf)))) rfl flat_strs ?_
          refine ⟨_, rfl, ?_⟩
          cases hin : inV (.str s) (F.map V.str) with
          | true =>
            rw [hin] at hR
            walk_at "ss"
            exact hR _ (Ex.refl _)
          | false =>
            rw [hin] at hR
            walk_at "ss"
            exact hR _ (Ex.refl _)
        rw [fm_new]
        intro p6 H6 hp6 e6 g6
        walk_at "ss"
        have gf6 := e6 _ _ (e5 _ _ gf)
        have hfl : (q.names.filter fun n => !F.contains n).length ≤ q.names.length := List.length_filter_le _ _
        refine c_cat gf6 g6 (fun p7 H7 hp7 e7 g7 => ?_) (by rw [List.length_map, List.length_map]; omega)
        walk_at "ss"
        have eG7 := eG.trans (e5.trans (e6.trans e7))
        refine ⟨⟨_, _, p7, rfl, ?_, fresh_back (eG.trans (e5.trans e6)) hp7⟩, ?_, eG7, e7 _ _ (e6 _ _ (e5 _ _ gp))⟩
        · rw [g7, ef, ← List.map_append] <;> rfl
        · rw [ef]
          have := addN_len F q.names
          rw [Nat.succ_mul]
          omega
      · rintro σ' G ⟨⟨v2, v3, f', rfl, gf, hf'⟩, hbd, eG, gp⟩
        walk_at "ss"
        rw [hul, List.take_length, ← Tm.names_parts t hS] at gf
        exact k f' G hf' eG gf
theorem okn_nml (T : Txt K mg Z) : ∀ n, FnOk P w K mg base CX0 (n + 1) Z.f_names_l Z.fd_names_l ["_law_told_here"] (sp_nml n)
  | 0 => ⟨fun vs H Q E ⟨t, u, e, _⟩ => by rw [e]; rfl, fun _ _ _ _ _ _ _ _ _ _ _ _ _ ⟨t, u, _, _, h1, _⟩ => by have := t.dep_pos; omega⟩
  | n + 1 => ok_names_l T (okn_nml T n)
theorem max_dep {t : Tm} {m : Int} (hm : m ∈ t.parts.map fun q => ((q.dep : Nat) : Int)) (hu : ∀ y, y ∈ (t.parts.map fun q => ((q.dep : Nat) : Int)) → y ≤ m) : (1 : Int) + m = (t.dep : Nat) := by
  cases t with
  | nm s => cases hm
  | vl v => cases hm
  | two op a b =>
    simp only [Tm.parts, List.map_cons, List.map_nil, List.mem_cons, List.not_mem_nil, or_false, forall_eq_or_imp, forall_eq] at hm hu
    simp only [Tm.dep]
    omega
  | nt a =>
    simp only [Tm.parts, List.map_cons, List.map_nil, List.mem_cons, List.not_mem_nil, or_false, forall_eq] at hm hu
    simp only [Tm.dep]
    omega
  | pk c a b =>
    simp only [Tm.parts, List.map_cons, List.map_nil, List.mem_cons, List.not_mem_nil, or_false, forall_eq_or_imp, forall_eq] at hm hu
    simp only [Tm.dep]
    omega
def sp_lvl (n : Nat) : Sp := fun vs H Q _ => ∃ (t : Tm) (u : V), vs = [u] ∧ ToldAt H t u ∧ t.dep ≤ n ∧ RetV (.int (t.dep : Nat)) H Q
theorem in_nv {s : Str} (h1 : s ≠ "name") (h2 : s ≠ "value") : inV (.str s) [.str "name", .str "value"] = false := by
  have := inV_str (n := s) (F := ["name", "value"])
  rw [show ([V.str "name", V.str "value"] : List V) = (["name", "value"] : List Str).map V.str from rfl, this]
  cases hc : (["name", "value"] : List Str).contains s with
  | false => rfl
  | true =>
    have := List.contains_iff_mem.mp hc
    simp only [List.mem_cons, List.not_mem_nil, or_false] at this
    rcases this with e | e
    · exact absurd e h1
    · exact absurd e h2
theorem ok_levels_l (T : Txt K mg Z) {n : Nat} (G_levels_l : FnOk P w K mg base CX0 (n + 1) Z.f_levels_l Z.fd_levels_l ["_law_told_here"] (sp_lvl n)) : FnOk P w K mg base CX0 (n + 2) Z.f_levels_l Z.fd_levels_l ["_law_told_here"] (sp_lvl (n + 1)) := by
  refine T.F_levels_l.ok sc_levels_l (fun vs H Q E h => ?_) (fun cdv AA outer s H vs Q E hr h => ?_)
  · obtain ⟨t, u, rfl, _⟩ := h
    rfl
  · obtain ⟨t, u, rfl, ht, hd, k⟩ := h
    refine ⟨_, (pss_cons (ps_if (pt_cmpR op_in_seq (pe_ix ix_tup (pv 0) pe_int (fun _ _ => rfl)) (pe_tup (pa_cons pe_str (pa_cons pe_str pa_nil))) (by rfl)) (pss_one (ps_ret pe_int)) pss_nil)
      (pss_one (ps_ret (pe_op op_add pe_int (pe_callB (cr_max rfl) (by rfl) T.n_max (by decide +kernel) (pa_cons (pe_lc (own := [("_law_one", 1)]) (g := (gName 1)) (tt := tYes) (te := (tCall (sp_lvl n) [] E0 (tCons (tVar 1) tNil))) rfl sc_levels_l.nd (pi_tup (pe_slice sl_tup (pv 0) (po_some (pe_op op_add pe_int (pe_callTy call_int1 (by rfl) T.n_int (by decide +kernel) (pa_cons (pe_cmpR op_eq (pe_ix ix_tup (pv 0) pe_int (fun _ _ => rfl)) pe_str (nomark _)) pa_nil)))) po_none)) (blkOk_by (own := [("_law_one", 1)]) (N := N_levels_l) (sc := defScope s_levels_l) (by decide +kernel)) (fun _ _ _ _ _ => (pg_name (i := 1) sc_levels_l.nd rfl (Or.inl rfl))) (fun _ _ _ _ _ => pts_nil) (fun _ _ _ _ _ => (pe_call G_levels_l (hr.mono (by omega)) rfl T.g_levels_l T.F_levels_l.kp T.b_levels_l .nil pass0 (pa_cons (pv 1) pa_nil)))) pa_nil)))))), ?_⟩
    by_cases hp : t.parts = []
    · have hw : ∃ a w0 x, u = .ref a ∧ H a = some (.tup [.str w0, x]) ∧ inV (.str w0) [.str "name", .str "value"] = true ∧ t.dep = 1 := by
        cases t with
        | nm s => obtain ⟨a, rfl, ha⟩ := ht; exact ⟨a, _, _, rfl, ha, by decide +kernel, rfl⟩
        | vl s => obtain ⟨a, rfl, ha⟩ := ht; exact ⟨a, _, _, rfl, ha, by decide +kernel, rfl⟩
        | two op x y => exact absurd hp (by simp [Tm.parts])
        | nt x => exact absurd hp (by simp [Tm.parts])
        | pk c x y => exact absurd hp (by simp [Tm.parts])
      obtain ⟨a, w0, x, rfl, ha, hin, hd1⟩ := hw
      walk_at "ss"
      refine c_ixT (SqT.of ha) rfl ?_
      walk_at "ss"
      refine newT fun p1 H1 hp1 e1 g1 => ?_
      refine c_in (.inr (SqT.of g1)) rfl rfl ?_
      rw [hin]
      walk_at "ss"
      rw [hd1] at k
      exact k _ e1
    · obtain ⟨a, w0, xs, us, rfl, ha, hw1, hw2, ⟨_, hcut⟩, hul, hwh, hus⟩ := told_cut ht hp
      walk_at "ss"
      refine c_ixT (SqT.of ha) at_hd ?_
      walk_at "ss"
      refine newT fun p1 H1 hp1 e1 g1 => ?_
      refine c_in (.inr (SqT.of g1)) rfl rfl ?_
      rw [in_nv hw1 hw2]
      have ha1 := e1 _ _ ha
      walk_at "ss"
      refine c_ixT (SqT.of ha1) at_hd ?_
      walk_at "ss"
      refine .inr ⟨_, rfl, ?_⟩
      walk_at "ss"
      refine ⟨a, _, rfl, SqT.of ha1, hwh, fun p2 hp2 => ?_⟩
      rw [hcut]
      have e2 : Ex H1 (upd H1 p2 (.tup us)) := Ex.new hp2
      have g2 : upd H1 p2 (.tup us) p2 = some (.tup us) := upd_same
      generalize upd H1 p2 (.tup us) = H2 at e2 g2
      have hl3 := t.parts_len
      refine ⟨p2, rfl, ⟨_, SqT.of g2⟩, lcT (fun i => (t.parts[i]?).bind fun q => some (.int (q.dep : Nat))) (SqT.of g2) (by omega) (fun i x hx => ?_) ?_⟩
      · obtain ⟨q, hq, hqx⟩ := hus i x hx
        intro H3 e3 R hR
        walk_at "ss"
        have := Tm.dep_part (List.mem_of_getElem? hq)
        refine ⟨q, x, rfl, hqx.up (e1.trans (e2.trans e3)), by omega, fun H4 e4 => ?_⟩
        rw [hq] at hR
        exact hR _ e4
      rw [hul, fm_range, fm_some]
      intro p3 H3 hp3 e3 g3
      walk_at "ss"
      have em : t.parts.map (fun q => V.int (q.dep : Nat)) = (t.parts.map fun q => ((q.dep : Nat) : Int)).map V.int := by rw [List.map_map]; rfl
      rw [em] at g3
      refine ⟨p3, _, rfl, SqL.of g3, ?_, fun m hm hu => ?_⟩
      · rw [List.length_map]
        exact List.length_pos_iff.mpr hp
      walk_at "ss"
      rw [max_dep hm hu]
      exact k _ (e1.trans (e2.trans e3))
theorem okn_lvl (T : Txt K mg Z) : ∀ n, FnOk P w K mg base CX0 (n + 1) Z.f_levels_l Z.fd_levels_l ["_law_told_here"] (sp_lvl n)
  | 0 => ⟨fun vs H Q E ⟨t, u, e, _⟩ => by rw [e]; rfl, fun _ _ _ _ _ _ _ _ _ _ _ _ _ ⟨t, u, _, _, h1, _⟩ => by have := t.dep_pos; omega⟩
  | n + 1 => ok_levels_l T (okn_lvl T n)

/-! ### the law -/
theorem addN_mem {a b : List Str} {s : Str} (h : s ∈ addN a b) : s ∈ a ∨ s ∈ b := by
  rcases List.mem_append.mp h with h | h
  · exact .inl h
  · exact .inr (List.mem_filter.mp h).1
theorem names_ok : ∀ {t : Tm}, t.good → ∀ s ∈ t.names, OkT s := by
  intro t
  induction t with
  | nm s =>
    intro g x hx
    have : x = s := by simpa [Tm.names] using hx
    rw [this]
    exact g.2.2
  | vl v => intro _ x hx; cases hx
  | two op a b iha ihb =>
    intro g x hx
    rcases addN_mem hx with h | h
    · rcases addN_mem h with h | h
      · cases h
      · exact iha g.2.1 x h
    · exact ihb g.2.2 x h
  | nt a iha =>
    intro g x hx
    rcases addN_mem hx with h | h
    · cases h
    · exact iha g x h
  | pk c a b ihc iha ihb =>
    intro g x hx
    rcases addN_mem hx with h | h
    · rcases addN_mem h with h | h
      · rcases addN_mem h with h | h
        · cases h
        · exact ihc g.1 x h
      · exact iha g.2.1 x h
    · exact ihb g.2.2 x h
theorem okV_strs {F : List Str} (h : ∀ s ∈ F, OkT s) : (F.map V.str).all okV = true := by
  rw [List.all_eq_true]
  intro v hv
  obtain ⟨s, hs, rfl⟩ := List.mem_map.mp hv
  exact okT_V (h s hs)
theorem eqL_strs : ∀ {F : List Str}, eqL (F.map V.str) (F.map V.str) = true
  | [] => rfl
  | a :: F => by
    rw [List.map_cons, eqL, eqL_strs, Bool.and_true]
    show (a == a) = true
    exact beq_self_eq_true a
theorem kb_ll : kitB "list" "list" = some true := by decide +kernel
def sp_right_l (Z : Adr) : Sp := fun vs H Q _ => ∃ (t : Tm) (v u : V), vs = [v, u] ∧ TermAt Z H t v ∧ ToldAt H t u ∧ t.good ∧ t.dep ≤ 5 ∧ RetV (.bl true) H Q
theorem ok_right_l (T : Txt K mg Z)  : FnG P w K mg base CX0 (12) Z.f_right_l Z.fd_right_l ["_law_term", "_law_told_here"] (sp_right_l Z) := by
  refine T.F_right_l.okG sc_right_l (fun vs H Q E h => ?_) (fun cdv AA outer s H vs Q E hgd hr h => ?_)
  · obtain ⟨t, v, u, rfl, _⟩ := h
    rfl
  · obtain ⟨t, v, u, rfl, ht, hu, hg, hd, k⟩ := h
    have GM_told := gm_told (P := P) (w := w) (base := base) T 5
    have GM_levels := gm_levels (P := P) (w := w) (base := base) T 5
    have GM_names := gm_names (P := P) (w := w) (base := base) T 5
    have G_names_l := okn_nml (P := P) (w := w) (base := base) T 5
    have G_levels_l := okn_lvl (P := P) (w := w) (base := base) T 5
    obtain ⟨a, dx, fs, rfl, ha, l1, l2, l3, l4⟩ := ht.cls
    have hB : 200 * 4 ^ t.dep ≤ 2 ^ 20 := by
      have : 4 ^ t.dep ≤ 4 ^ 5 := Nat.pow_le_pow_right (by decide) hd
      have e : (4 : Nat) ^ 5 = 1024 := rfl
      omega
    refine ⟨_, (pss_cons (ps_if (PW.pt (pw_or (pt_not (pt_val (pe_callB call_isi (by rfl) T.n_isinstance (by decide +kernel) (pa_cons (pv 0) (pa_cons (pe_gcst (v := .ref Z.c_Term) rfl ⟨_, T.m_Term, rfl⟩) pa_nil))))) (pw_or (pt_cmpR op_ne (pe_callB (call_reprD hgd hr) (by rfl) T.n_repr (by decide +kernel) (pa_cons (pe_methP0 (pv 0) GM_told (hr.mono (by omega)) pass0) pa_nil)) (pe_callB (call_reprD hgd hr) (by rfl) T.n_repr (by decide +kernel) (pa_cons (pv 1) pa_nil)) (nomark _)) (pw_or1 (pt_cmpR op_ne (pe_methP0 (pv 0) GM_levels (hr.mono (by omega)) pass0) (pe_call G_levels_l (hr.mono (by omega)) rfl T.g_levels_l T.F_levels_l.kp T.b_levels_l .nil pass0 (pa_cons (pv 1) pa_nil)) (nomark _)))))) (pss_one (ps_ret pe_bl)) pss_nil)
      (pss_cons (ps_set (i := 2) sc_right_l.nd rfl (Or.inl rfl) (pe_methP0 (pv 0) GM_names (hr.mono (by omega)) pass0))
      (pss_cons (ps_if (PW.pt (pw_or (pt_not (pt_val (pe_callB call_isi (by rfl) T.n_isinstance (by decide +kernel) (pa_cons (pv 2) (pa_cons (pe_bltn (v := .ty "list") (by rfl) T.n_list (by decide +kernel) rfl) pa_nil))))) (pw_or1 (pt_cmpR (op_neD hr.units) (pv 2) (pe_call G_names_l (hr.mono (by omega)) rfl T.g_names_l T.F_names_l.kp T.b_names_l .nil pass0 (pa_cons (pv 1) pa_nil)) (nomark _))))) (pss_one (ps_ret pe_bl)) pss_nil)
      (pss_cons (ps_expr (pe_bm PySem.F.plainAttrs_list PySem.F.slot_list_append PySem.F.type_list_append mt_append (pv 2) (pa_cons pe_str pa_nil)))
      (pss_one (ps_ret (pe_and (pe_cmpR (op_eqD hr.units) (pe_methP0 (pv 0) GM_names (hr.mono (by omega)) pass0) (pe_call G_names_l (hr.mono (by omega)) rfl T.g_names_l T.F_names_l.kp T.b_names_l .nil pass0 (pa_cons (pv 1) pa_nil)) (nomark _)) (pe_one (pe_not (pe_callB call_isi (by rfl) T.n_isinstance (by decide +kernel) (pa_cons (pe_methP0 (pv 0) GM_levels (hr.mono (by omega)) pass0) (pa_cons (pe_bltn (v := .ty "bool") (by rfl) T.n_bool (by decide +kernel) rfl) pa_nil)))))))))))), ?_⟩
    walk_at "ss"
    refine is_term T ht ?_
    walk_at "ss"
    refine ⟨a, _, dx, fs, rfl, ha, clsT_MC Z t, l4, ?_⟩
    walk_at "ss"
    refine ⟨t, _, rfl, ht, rfl, hd, fun u1 H1 e1 t1 => ?_⟩
    walk_at "ss"
    obtain ⟨p1, rfl⟩ : ∃ p, u1 = .ref p := by
      cases t <;> (obtain ⟨p, h⟩ := t1; first | exact ⟨p, h.1⟩ | (obtain ⟨_, h⟩ := h; first | exact ⟨p, h.1⟩ | (obtain ⟨_, h⟩ := h; first | exact ⟨p, h.1⟩ | (obtain ⟨_, h⟩ := h; exact ⟨p, h.1⟩))))
    refine c_repr (t1.dp hg) (Tm.rp hg) ?_ (by omega) hB
    walk_at "ss"
    have hu1 := hu.up e1
    obtain ⟨p2, rfl⟩ : ∃ p, u = .ref p := by
      cases t <;> (obtain ⟨p, h⟩ := hu; first | exact ⟨p, h.1⟩ | (obtain ⟨_, h⟩ := h; first | exact ⟨p, h.1⟩ | (obtain ⟨_, h⟩ := h; first | exact ⟨p, h.1⟩ | (obtain ⟨_, h⟩ := h; exact ⟨p, h.1⟩))))
    refine c_repr (hu1.dp hg) (Tm.rp hg) ?_ (by omega) hB
    walk_at "ss"
    rw [decide_eq_true rfl]
    walk_at "ss"
    refine ⟨a, _, dx, fs, rfl, e1 _ _ ha, clsT_MC Z t, l3, ?_⟩
    walk_at "ss"
    refine ⟨t, _, rfl, ht.up e1, hd, fun H2 e2 => ?_⟩
    walk_at "ss"
    refine ⟨t, _, rfl, hu1.up e2, hd, fun H3 e3 => ?_⟩
    walk_at "ss"
    rw [decide_eq_true rfl]
    walk_at "ss"
    have e13 := e1.trans (e2.trans e3)
    refine ⟨a, _, dx, fs, rfl, e13 _ _ ha, clsT_MC Z t, l2, ?_⟩
    walk_at "ss"
    refine ⟨t, _, rfl, ht.up e13, rfl, hd, by omega, fun f H4 hf e4 g4 => ?_⟩
    walk_at "ss"
    refine isi (ty_lst g4) kb_ll ?_
    walk_at "ss"
    have e14 := e13.trans e4
    refine ⟨t, _, rfl, hu.up e14, hd, by omega, fun f5 H5 hf5 e5 g5 => ?_⟩
    have ok := okV_strs (names_ok hg)
    refine c_neLs (SqL.of (e5 _ _ g4)) (SqL.of g5) ok ok ?_
    rw [eqL_strs]
    walk_at "ss"
    have g45 := e5 _ _ g4
    refine ⟨.inl ⟨rfl, _, SqL.of g45⟩, ?_⟩
    walk_at "ss"
    have h7 := names_729 (t := t) (by omega)
    refine ⟨f, _, _, rfl, rfl, g45, Evl.sz_lt (by rw [List.length_map]; omega), ?_⟩
    have e6 : Ex H (upd H5 f (.lst (t.names.map V.str ++ [.str "none"]))) := Ex.mut (e14.trans e5) (fresh_back e13 hf)
    generalize upd H5 f (.lst (t.names.map V.str ++ [.str "none"])) = H6 at e6
    walk_at "ss"
    refine ⟨a, _, dx, fs, rfl, e6 _ _ ha, clsT_MC Z t, l2, ?_⟩
    walk_at "ss"
    refine ⟨t, _, rfl, ht.up e6, rfl, hd, by omega, fun f7 H7 hf7 e7 g7 => ?_⟩
    walk_at "ss"
    have e67 := e6.trans e7
    refine ⟨t, _, rfl, hu.up e67, hd, by omega, fun f8 H8 hf8 e8 g8 => ?_⟩
    refine c_eqLs (SqL.of (e8 _ _ g7)) (SqL.of g8) ok ok ?_
    rw [eqL_strs]
    walk_at "ss"
    have e68 := e67.trans e8
    refine ⟨a, _, dx, fs, rfl, e68 _ _ ha, clsT_MC Z t, l3, ?_⟩
    walk_at "ss"
    refine ⟨t, _, rfl, ht.up e68, hd, fun H9 e9 => ?_⟩
    walk_at "ss"
    refine isi (ty_int _) kb_ib ?_
    walk_at "ss"
    exact k _ (e68.trans e9)
def nms : List Str := ["a", "ab", "b.a", "x.y.zz", "mmmmmmmm", repS "abcdefgh." 8 ++ "abcdefgh"]
theorem goodN_of {s : Str} (h : (isPointed s && (decide (s.length ≤ 80) && (TL.tl s).all fun c => decide (c < 1114112))) = true) : goodN s := by
  rw [Bool.and_eq_true, Bool.and_eq_true, decide_eq_true_eq] at h
  exact ⟨h.1, h.2.1, OkT.lit h.2.2⟩
theorem nms_good : ∀ s ∈ nms, goodN s := by
  have h : nms.all (fun s => isPointed s && (decide (s.length ≤ 80) && (TL.tl s).all fun c => decide (c < 1114112))) = true := by decide +kernel
  exact fun s hs => goodN_of (List.all_eq_true.mp h s hs)
def sp_law (K : PySem.W.Frag) : Sp := fun vs H Q _ => ∃ (a : Addr) (ns : List Int), vs = [.ref a] ∧ SqL K H a (ns.map V.int) ∧ ns.length ≤ 63 ∧ ∀ H', Q (.bl true) H'
theorem ok_law (T : Txt K mg Z)  : FnG P w K mg base CX0 (20) Z.f_law Z.fd_law ["_law_script"] (sp_law K) := by
  have G_cell_at_l := ok_cell_at_l (P := P) (w := w) (base := base) T
  have G_box_l := ok_box_l (P := P) (w := w) (base := base) T
  have G_take_l := ok_take_l (P := P) (w := w) (base := base) T
  have G_right_l := ok_right_l (P := P) (w := w) (base := base) T
  have G_term_of := ok_term_of (P := P) (w := w) (base := base) T
  have G_Name_init := ok_Name_init (P := P) (w := w) (base := base) T
  have G_Value_init := ok_Value_init (P := P) (w := w) (base := base) T
  have G_Two_init := ok_Two_init (P := P) (w := w) (base := base) T
  have G_Not_init := ok_Not_init (P := P) (w := w) (base := base) T
  have G_Pick_init := ok_Pick_init (P := P) (w := w) (base := base) T
  refine T.F_law.okG sc_law (fun vs H Q E h => ?_) (fun cdv AA outer s H vs Q E hgd hr h => ?_)
  · obtain ⟨a, ns, rfl, _⟩ := h
    rfl
  · obtain ⟨a, ns, rfl, hS, hl, k⟩ := h
    have GM_told := gm_told (P := P) (w := w) (base := base) T 5
    have G_told_l := okn_told (P := P) (w := w) (base := base) T 5
    have G_made_l := okn_mk (P := P) (w := w) (base := base) T 5
    have G_levels_l := okn_lvl (P := P) (w := w) (base := base) T 5
    refine ⟨_, (pss_cons (ps_set (i := 1) sc_law.nd rfl (Or.inl rfl) (pe_lst (pa_cons pe_str (pa_cons pe_str (pa_cons pe_str (pa_cons pe_str (pa_cons pe_str (pa_cons (pe_op op_add_str (pe_op op_rep_str pe_str pe_int) pe_str) pa_nil))))))))
      (pss_cons (ps_for PassesOwn.never rfl (pi_range1 (by rfl) T.n_range (pa_cons (pe_callB (call_max2 rfl) (by rfl) T.n_max (by decide +kernel) (pa_cons pe_int (pa_cons (pe_callB (call_min2 rfl) (by rfl) T.n_min (by decide +kernel) (pa_cons (pe_callB call_len_seq (by rfl) T.n_len (by decide +kernel) (pa_cons (pv 0) pa_nil)) (pa_cons pe_int pa_nil))) pa_nil))) pa_nil)) (pg_name (i := 2) sc_law.nd rfl (Or.inl rfl)) (pss_cons (ps_set (i := 3) sc_law.nd rfl (Or.inl rfl) (pe_call G_box_l (hr.mono (by omega)) rfl T.g_box_l T.F_box_l.kp T.b_box_l .nil pass0 (pa_cons (pe_call G_cell_at_l (hr.mono (by omega)) rfl T.g_cell_at_l T.F_cell_at_l.kp T.b_cell_at_l .nil pass0 (pa_cons (pv 0) (pa_cons (pv 2) pa_nil))) pa_nil)))
      (pss_cons (ps_set (i := 4) sc_law.nd rfl (Or.inl rfl) (pe_call G_told_l (hr.mono (by omega)) rfl T.g_told_l T.F_told_l.kp T.b_told_l .nil pass0 (pa_cons (pv 3) (pa_cons (pe_op op_add pe_int (pe_call G_take_l (hr.mono (by omega)) rfl T.g_take_l T.F_take_l.kp T.b_take_l .nil pass0 (pa_cons (pv 3) (pa_cons pe_int pa_nil)))) (pa_cons (pv 1) pa_nil)))))
      (pss_cons (ps_set (i := 5) sc_law.nd rfl (Or.inl rfl) (pe_call G_made_l (hr.mono (by omega)) rfl T.g_made_l T.F_made_l.kp T.b_made_l .nil pass0 (pa_cons (pv 4) pa_nil)))
      (pss_cons (ps_if (PW.pt (pw_or (pt_not (pt_val (pe_callG hgd G_right_l (hr.mono (by omega)) rfl T.g_right_l T.F_right_l.kp T.b_right_l pass0 (pa_cons (pv 5) (pa_cons (pv 4) pa_nil))))) (pw_or1 (pt_not (pt_val (pe_callG hgd G_right_l (hr.mono (by omega)) rfl T.g_right_l T.F_right_l.kp T.b_right_l pass0 (pa_cons (pe_call G_term_of (hr.mono (by omega)) rfl T.g_term_of T.F_term_of.kp T.b_term_of .nil pass0 (pa_cons (pe_methP0 (pv 5) GM_told (hr.mono (by omega)) pass0) pa_nil)) (pa_cons (pv 4) pa_nil)))))))) (pss_one (ps_ret pe_bl)) pss_nil)
      (pss_cons (ps_if (PW.pt (pw_or (pt_not (pt_val (pe_callG hgd G_right_l (hr.mono (by omega)) rfl T.g_right_l T.F_right_l.kp T.b_right_l pass0 (pa_cons (pe_call G_term_of (hr.mono (by omega)) rfl T.g_term_of T.F_term_of.kp T.b_term_of .nil pass0 (pa_cons (pv 4) pa_nil)) (pa_cons (pv 4) pa_nil))))) (pw_or1 (pt_not (pt_val (pe_callG hgd G_right_l (hr.mono (by omega)) rfl T.g_right_l T.F_right_l.kp T.b_right_l pass0 (pa_cons (pv 5) (pa_cons (pv 4) pa_nil)))))))) (pss_one (ps_ret pe_bl)) pss_nil)
      (pss_one (ps_if (pt_cmpR op_lt (pe_call G_levels_l (hr.mono (by omega)) rfl T.g_levels_l T.F_levels_l.kp T.b_levels_l .nil pass0 (pa_cons (pv 4) pa_nil)) pe_int (nomark _)) (pss_cons (ps_set (i := 6) sc_law.nd rfl (Or.inl rfl) (pe_make ⟨(tcB_ok T.x_Two).makes, T.i_Two, T.y_Two_init, (tcB_ok T.x_Two).kp⟩ G_Two_init (hr.mono (by omega)) rfl T.m_Two T.b_Two_init .nil pass0 (pa_cons pe_str (pa_cons (pv 5) (pa_cons (pe_make ⟨(tcB_ok T.x_Not).makes, T.i_Not, T.y_Not_init, (tcB_ok T.x_Not).kp⟩ G_Not_init (hr.mono (by omega)) rfl T.m_Not T.b_Not_init .nil pass0 (pa_cons (pe_make ⟨(tcB_ok T.x_Name).makes, T.i_Name, T.y_Name_init, (tcB_ok T.x_Name).kp⟩ G_Name_init (hr.mono (by omega)) rfl T.m_Name T.b_Name_init .nil pass0 (pa_cons pe_str pa_nil)) pa_nil)) pa_nil)))))
      (pss_cons (ps_if (pt_not (pt_val (pe_callG hgd G_right_l (hr.mono (by omega)) rfl T.g_right_l T.F_right_l.kp T.b_right_l pass0 (pa_cons (pv 6) (pa_cons (pe_tup (pa_cons pe_str (pa_cons pe_str (pa_cons (pv 4) (pa_cons (pe_tup (pa_cons pe_str (pa_cons (pe_tup (pa_cons pe_str (pa_cons pe_str pa_nil))) pa_nil))) pa_nil))))) pa_nil))))) (pss_one (ps_ret pe_bl)) pss_nil)
      (pss_cons (ps_set (i := 7) sc_law.nd rfl (Or.inl rfl) (pe_make ⟨(tcB_ok T.x_Pick).makes, T.i_Pick, T.y_Pick_init, (tcB_ok T.x_Pick).kp⟩ G_Pick_init (hr.mono (by omega)) rfl T.m_Pick T.b_Pick_init .nil pass0 (pa_cons (pe_make ⟨(tcB_ok T.x_Value).makes, T.i_Value, T.y_Value_init, (tcB_ok T.x_Value).kp⟩ G_Value_init (hr.mono (by omega)) rfl T.m_Value T.b_Value_init .nil pass0 (pa_cons pe_bl pa_nil)) (pa_cons (pv 5) (pa_cons (pv 5) pa_nil)))))
      (pss_cons (ps_if (pt_not (pt_val (pe_callG hgd G_right_l (hr.mono (by omega)) rfl T.g_right_l T.F_right_l.kp T.b_right_l pass0 (pa_cons (pv 7) (pa_cons (pe_tup (pa_cons pe_str (pa_cons (pe_tup (pa_cons pe_str (pa_cons pe_bl pa_nil))) (pa_cons (pv 4) (pa_cons (pv 4) pa_nil))))) pa_nil))))) (pss_one (ps_ret pe_bl)) pss_nil)
      (pss_one (ps_if (pt_not (pt_val (pe_callG hgd G_right_l (hr.mono (by omega)) rfl T.g_right_l T.F_right_l.kp T.b_right_l pass0 (pa_cons (pv 5) (pa_cons (pv 4) pa_nil))))) (pss_one (ps_ret pe_bl)) pss_nil)))))) pss_nil))))))))
      (pss_one (ps_ret pe_bl)))), ?_⟩
    walk_at "ss"
    refine ⟨by decide, by decide, by decide +kernel, by decide +kernel, ?_⟩
    walk_at "ss"
    refine ⟨Evl.sz_of (by decide +kernel), ?_⟩
    walk_at "ss"
    refine newL fun nl H0 hnl e0 g0 => ?_
    walk_at "ss"
    refine ⟨_, _, rfl, .inl (ex_l e0 hS), ?_⟩
    walk_at "ss"
    refine ⟨_, _, rfl, ?_⟩
    walk_at "ss"
    refine ⟨_, _, rfl, ?_⟩
    walk_at "ss"
    refine ⟨by split <;> split <;> omega, by split <;> split <;> omega, ?_⟩
    refine forR (fun i σ' H' => (∃ v2 v3 v4 v5 v6 v7, σ' = [some (.ref a), some (.ref nl), v2, v3, v4, v5, v6, v7]) ∧ Ex H0 H') ⟨⟨_, _, _, _, _, _, rfl⟩, Ex.refl _⟩ ?_ ?_
    · rintro i σ' G hi ⟨⟨v2, v3, v4, v5, v6, v7, rfl⟩, e⟩
      walk_at "ss"
      refine ⟨_, _, _, rfl, ex_l (e0.trans e) hS, by omega, fun n => ?_⟩
      walk_at "ss"
      refine ⟨_, rfl, fun b G1 hb f1 hB => ?_⟩
      walk_at "ss"
      refine ⟨b, 5, rfl, hB, by decide, by decide, fun d G2 h0 h1 x2 b2 => ?_⟩
      walk_at "ss"
      obtain ⟨dn, rfl⟩ := Int.eq_ofNat_of_zero_le h0
      have el : (1 : Int) + (dn : Int) = ((1 + dn : Nat) : Int) := by omega
      rw [el]
      have hn0 : G nl = some (.lst (nms.map V.str)) := e _ _ g0
      have nb : nl ≠ b := ne_of_none hn0 hb
      refine ⟨b, 1 + dn, nl, nms, rfl, b2, x2 _ _ nb (f1 _ _ hn0), nms_good, by decide, by decide, by omega, by omega, fun t u G3 hd hg tt x3 b3 => ?_⟩
      walk_at "ss"
      have E3 : Ex G G3 := fun a o h => (x2.trans x3) a o (ne_of_none h hb) (f1 a o h)
      refine ⟨t, u, rfl, tt, hg, by omega, by omega, fun v G4 e4 tv => ?_⟩
      walk_at "ss"
      refine ⟨t, v, u, rfl, tv, tt.up e4, hg, by omega, fun G5 e5 => ?_⟩
      obtain ⟨a2, dx2, fs2, rfl, ha2, l1, l2, l3, l4⟩ := tv.cls
      walk_at "ss"
      refine ⟨a2, _, dx2, fs2, rfl, e5 _ _ ha2, clsT_MC Z t, l4, ?_⟩
      walk_at "ss"
      refine ⟨t, _, rfl, tv.up e5, rfl, by omega, fun u6 G6 e6 t6 => ?_⟩
      walk_at "ss"
      refine ⟨t, u6, rfl, t6, hg, by omega, fun v7 G7 e7 t7 => ?_⟩
      walk_at "ss"
      have E47 := e5.trans (e6.trans e7)
      refine ⟨t, v7, u, rfl, t7, tt.up (e4.trans E47), hg, by omega, fun G8 e8 => ?_⟩
      walk_at "ss"
      have E48 := E47.trans e8
      refine ⟨t, u, rfl, tt.up (e4.trans E48), hg, by omega, fun v9 G9 e9 t9 => ?_⟩
      walk_at "ss"
      have E49 := E48.trans e9
      refine ⟨t, v9, u, rfl, t9, tt.up (e4.trans E49), hg, by omega, fun G10 e10 => ?_⟩
      walk_at "ss"
      have E410 := E49.trans e10
      refine ⟨t, _, u, rfl, tv.up E410, tt.up (e4.trans E410), hg, by omega, fun G11 e11 => ?_⟩
      walk_at "ss"
      have E411 := E410.trans e11
      refine ⟨t, u, rfl, tt.up (e4.trans E411), by omega, fun G12 e12 => ?_⟩
      walk_at "ss"
      have E412 := E411.trans e12
      refine if_cs (fun c5 => ?_) (fun c5 => ?_)
      · have hd4 : t.dep ≤ 4 := by have := of_decide_eq_true c5; omega
        walk_at "ss"
        refine mk_Name (by decide +kernel) (by decide +kernel) (fun v13 G13 e13 t13 => ?_)
        walk_at "ss"
        refine mk_Not t13 (by decide) (fun v14 G14 e14 t14 => ?_)
        walk_at "ss"
        have E414 := E412.trans (e13.trans e14)
        refine mk_Two (by decide +kernel) (tv.up E414) t14 (by omega) (by decide) (fun v15 G15 e15 t15 => ?_)
        walk_at "ss"
        refine newT fun p16 G16 h16 e16 g16 => ?_
        walk_at "ss"
        refine newT fun p17 G17 h17 e17 g17 => ?_
        walk_at "ss"
        refine newT fun p18 G18 h18 e18 g18 => ?_
        walk_at "ss"
        have E1618 := e16.trans (e17.trans e18)
        have E418 := E414.trans (e15.trans E1618)
        refine ⟨.two "+" t (.nt (.nm "a")), v15, _, rfl, t15.up E1618, ⟨p18, _, _, rfl, g18, tt.up (e4.trans E418), ⟨p17, _, rfl, e18 _ _ g17, ⟨p16, rfl, (e17.trans e18) _ _ g16⟩⟩⟩, ⟨by decide +kernel, hg, goodN_of (by decide +kernel)⟩, by show 1 + max t.dep 2 ≤ 5; omega, fun G19 e19 => ?_⟩
        walk_at "ss"
        have E419 := E418.trans e19
        refine mk_Value rfl (fun v20 G20 e20 t20 => ?_)
        walk_at "ss"
        have E420 := E419.trans e20
        refine mk_Pick t20 (tv.up E420) (tv.up E420) (by decide) (by omega) (by omega) (fun v21 G21 e21 t21 => ?_)
        walk_at "ss"
        refine newT fun p22 G22 h22 e22 g22 => ?_
        walk_at "ss"
        refine newT fun p23 G23 h23 e23 g23 => ?_
        walk_at "ss"
        have E423 := E420.trans (e21.trans (e22.trans e23))
        refine ⟨.pk (.vl (.bl true)) t t, v21, _, rfl, t21.up (e22.trans e23), ⟨p23, _, _, _, rfl, g23, ⟨p22, rfl, e23 _ _ g22⟩, tt.up (e4.trans E423), tt.up (e4.trans E423)⟩, ⟨rfl, hg, hg⟩, by show 1 + max (max 1 t.dep) t.dep ≤ 5; omega, fun G24 e24 => ?_⟩
        walk_at "ss"
        have E424 := E423.trans e24
        refine ⟨t, _, u, rfl, tv.up E424, tt.up (e4.trans E424), hg, by omega, fun G25 e25 => ?_⟩
        walk_at "ss"
        exact ⟨⟨_, _, _, _, _, _, rfl⟩, e.trans (E3.trans (e4.trans (E424.trans e25)))⟩
      · walk_at "ss"
        exact ⟨⟨_, _, _, _, _, _, rfl⟩, e.trans (E3.trans (e4.trans E412))⟩
    · rintro σ' G ⟨⟨v2, v3, v4, v5, v6, v7, rfl⟩, e⟩
      walk_at "ss"
      exact k _

end
theorem all_mk {l : PySem.W.OpenLaw} {w : World} {K : PySem.W.Frag} {h : Heap} {mg : Str → Option Value} {fa : Addr} (X : K.In h) (G : h.Ns mainGlobals mg) (hfa : mg "law" = some (.ref fa))
    {f0 : Addr} {od0 an0 : Option Addr} {sl0 : Array (Option Value)} {oc0 kV0 dc0 pm0 cd0 ct0 : Value}
    {f1 : Addr} {od1 an1 : Option Addr} {sl1 : Array (Option Value)} {oc1 kV1 dc1 pm1 cd1 ct1 : Value}
    {f2 : Addr} {od2 an2 : Option Addr} {sl2 : Array (Option Value)} {oc2 kV2 dc2 pm2 cd2 ct2 : Value}
    {f3 : Addr} {od3 an3 : Option Addr} {sl3 : Array (Option Value)} {oc3 kV3 dc3 pm3 cd3 ct3 : Value}
    {f4 : Addr} {od4 an4 : Option Addr} {sl4 : Array (Option Value)} {oc4 kV4 dc4 pm4 cd4 ct4 : Value}
    {f5 : Addr} {od5 an5 : Option Addr} {sl5 : Array (Option Value)} {oc5 kV5 dc5 pm5 cd5 ct5 : Value}
    {f6 : Addr} {od6 an6 : Option Addr} {sl6 : Array (Option Value)} {oc6 kV6 dc6 pm6 cd6 ct6 : Value}
    {f7 : Addr} {od7 an7 : Option Addr} {sl7 : Array (Option Value)} {oc7 kV7 dc7 pm7 cd7 ct7 : Value}
    {f8 : Addr} {od8 an8 : Option Addr} {sl8 : Array (Option Value)} {oc8 kV8 dc8 pm8 cd8 ct8 : Value}
    {f9 : Addr} {od9 an9 : Option Addr} {sl9 : Array (Option Value)} {oc9 kV9 dc9 pm9 cd9 ct9 : Value}
    {f10 : Addr} {od10 an10 : Option Addr} {sl10 : Array (Option Value)} {oc10 kV10 dc10 pm10 cd10 ct10 : Value}
    {f11 : Addr} {od11 an11 : Option Addr} {sl11 : Array (Option Value)} {oc11 kV11 dc11 pm11 cd11 ct11 : Value}
    {f12 : Addr} {od12 an12 : Option Addr} {sl12 : Array (Option Value)} {oc12 kV12 dc12 pm12 cd12 ct12 : Value}
    {f13 : Addr} {od13 an13 : Option Addr} {sl13 : Array (Option Value)} {oc13 kV13 dc13 pm13 cd13 ct13 : Value}
    {f14 : Addr} {od14 an14 : Option Addr} {sl14 : Array (Option Value)} {oc14 kV14 dc14 pm14 cd14 ct14 : Value}
    {f15 : Addr} {od15 an15 : Option Addr} {sl15 : Array (Option Value)} {oc15 kV15 dc15 pm15 cd15 ct15 : Value}
    {f16 : Addr} {od16 an16 : Option Addr} {sl16 : Array (Option Value)} {oc16 kV16 dc16 pm16 cd16 ct16 : Value}
    {f17 : Addr} {od17 an17 : Option Addr} {sl17 : Array (Option Value)} {oc17 kV17 dc17 pm17 cd17 ct17 : Value}
    {f18 : Addr} {od18 an18 : Option Addr} {sl18 : Array (Option Value)} {oc18 kV18 dc18 pm18 cd18 ct18 : Value}
    {f19 : Addr} {od19 an19 : Option Addr} {sl19 : Array (Option Value)} {oc19 kV19 dc19 pm19 cd19 ct19 : Value}
    {f20 : Addr} {od20 an20 : Option Addr} {sl20 : Array (Option Value)} {oc20 kV20 dc20 pm20 cd20 ct20 : Value}
    {f21 : Addr} {od21 an21 : Option Addr} {sl21 : Array (Option Value)} {oc21 kV21 dc21 pm21 cd21 ct21 : Value}
    {f22 : Addr} {od22 an22 : Option Addr} {sl22 : Array (Option Value)} {oc22 kV22 dc22 pm22 cd22 ct22 : Value}
    {f23 : Addr} {od23 an23 : Option Addr} {sl23 : Array (Option Value)} {oc23 kV23 dc23 pm23 cd23 ct23 : Value}
    {f24 : Addr} {od24 an24 : Option Addr} {sl24 : Array (Option Value)} {oc24 kV24 dc24 pm24 cd24 ct24 : Value}
    {f25 : Addr} {od25 an25 : Option Addr} {sl25 : Array (Option Value)} {oc25 kV25 dc25 pm25 cd25 ct25 : Value}
    {f26 : Addr} {od26 an26 : Option Addr} {sl26 : Array (Option Value)} {oc26 kV26 dc26 pm26 cd26 ct26 : Value}
    {f27 : Addr} {od27 an27 : Option Addr} {sl27 : Array (Option Value)} {oc27 kV27 dc27 pm27 cd27 ct27 : Value}
    {f28 : Addr} {od28 an28 : Option Addr} {sl28 : Array (Option Value)} {oc28 kV28 dc28 pm28 cd28 ct28 : Value}
    {f29 : Addr} {od29 an29 : Option Addr} {sl29 : Array (Option Value)} {oc29 kV29 dc29 pm29 cd29 ct29 : Value}
    {f30 : Addr} {od30 an30 : Option Addr} {sl30 : Array (Option Value)} {oc30 kV30 dc30 pm30 cd30 ct30 : Value}
    {f31 : Addr} {od31 an31 : Option Addr} {sl31 : Array (Option Value)} {oc31 kV31 dc31 pm31 cd31 ct31 : Value}
    {f32 : Addr} {od32 an32 : Option Addr} {sl32 : Array (Option Value)} {oc32 kV32 dc32 pm32 cd32 ct32 : Value}
    {f33 : Addr} {od33 an33 : Option Addr} {sl33 : Array (Option Value)} {oc33 kV33 dc33 pm33 cd33 ct33 : Value}
    {f34 : Addr} {od34 an34 : Option Addr} {sl34 : Array (Option Value)} {oc34 kV34 dc34 pm34 cd34 ct34 : Value}
    {f35 : Addr} {od35 an35 : Option Addr} {sl35 : Array (Option Value)} {oc35 kV35 dc35 pm35 cd35 ct35 : Value}
    {f36 : Addr} {od36 an36 : Option Addr} {sl36 : Array (Option Value)} {oc36 kV36 dc36 pm36 cd36 ct36 : Value}
    {c_Term : Addr}
    {c_Name : Addr}
    {c_Value : Addr}
    {c_Two : Addr}
    {c_Not : Addr}
    {c_Pick : Addr}
    (m_Term : PySem.W.nsIn K mainGlobals "Term" = some (some (.ref c_Term)))
    (m_Name : PySem.W.nsIn K mainGlobals "Name" = some (some (.ref c_Name)))
    (x_Name : tcB K c_Name ["name"] = true)
    (i_Name : PySem.W.findIn K (.ref c_Name) "__init__" = some (some (.ref f10)))
    (h_parts_Name : PySem.W.findIn K (.ref c_Name) "parts" = some (some (.ref f6)))
    (h_names_Name : PySem.W.findIn K (.ref c_Name) "names" = some (some (.ref f11)))
    (h_levels_Name : PySem.W.findIn K (.ref c_Name) "levels" = some (some (.ref f8)))
    (h_told_Name : PySem.W.findIn K (.ref c_Name) "told" = some (some (.ref f12)))
    (m_Value : PySem.W.nsIn K mainGlobals "Value" = some (some (.ref c_Value)))
    (x_Value : tcB K c_Value ["amount"] = true)
    (i_Value : PySem.W.findIn K (.ref c_Value) "__init__" = some (some (.ref f13)))
    (h_parts_Value : PySem.W.findIn K (.ref c_Value) "parts" = some (some (.ref f6)))
    (h_names_Value : PySem.W.findIn K (.ref c_Value) "names" = some (some (.ref f7)))
    (h_levels_Value : PySem.W.findIn K (.ref c_Value) "levels" = some (some (.ref f8)))
    (h_told_Value : PySem.W.findIn K (.ref c_Value) "told" = some (some (.ref f14)))
    (m_Two : PySem.W.nsIn K mainGlobals "Two" = some (some (.ref c_Two)))
    (x_Two : tcB K c_Two ["op", "one", "second"] = true)
    (i_Two : PySem.W.findIn K (.ref c_Two) "__init__" = some (some (.ref f15)))
    (h_parts_Two : PySem.W.findIn K (.ref c_Two) "parts" = some (some (.ref f16)))
    (h_names_Two : PySem.W.findIn K (.ref c_Two) "names" = some (some (.ref f7)))
    (h_levels_Two : PySem.W.findIn K (.ref c_Two) "levels" = some (some (.ref f8)))
    (h_told_Two : PySem.W.findIn K (.ref c_Two) "told" = some (some (.ref f17)))
    (m_Not : PySem.W.nsIn K mainGlobals "Not" = some (some (.ref c_Not)))
    (x_Not : tcB K c_Not ["one"] = true)
    (i_Not : PySem.W.findIn K (.ref c_Not) "__init__" = some (some (.ref f18)))
    (h_parts_Not : PySem.W.findIn K (.ref c_Not) "parts" = some (some (.ref f19)))
    (h_names_Not : PySem.W.findIn K (.ref c_Not) "names" = some (some (.ref f7)))
    (h_levels_Not : PySem.W.findIn K (.ref c_Not) "levels" = some (some (.ref f8)))
    (h_told_Not : PySem.W.findIn K (.ref c_Not) "told" = some (some (.ref f20)))
    (m_Pick : PySem.W.nsIn K mainGlobals "Pick" = some (some (.ref c_Pick)))
    (x_Pick : tcB K c_Pick ["by", "one", "second"] = true)
    (i_Pick : PySem.W.findIn K (.ref c_Pick) "__init__" = some (some (.ref f21)))
    (h_parts_Pick : PySem.W.findIn K (.ref c_Pick) "parts" = some (some (.ref f22)))
    (h_names_Pick : PySem.W.findIn K (.ref c_Pick) "names" = some (some (.ref f7)))
    (h_levels_Pick : PySem.W.findIn K (.ref c_Pick) "levels" = some (some (.ref f8)))
    (h_told_Pick : PySem.W.findIn K (.ref c_Pick) "told" = some (some (.ref f23)))
    (a0 : PySem.W.nsIn K mainGlobals "is_whole" = some (some (.ref f0))) (l0 : K.lookup f0 = some ⟨oc0, od0, .func (PySem.W.fnOf "is_whole" "is_whole" (defArgs s_is_whole) (defBody s_is_whole) (defScope s_is_whole) .none kV0 dc0 pm0 an0 cd0 ct0), sl0⟩) (c0 : PySem.W.codeIn K cd0 "is_whole" = true) (k0 : PySem.W.keepIn K (.ref f0) = true)
    (a1 : PySem.W.nsIn K mainGlobals "is_within" = some (some (.ref f1))) (l1 : K.lookup f1 = some ⟨oc1, od1, .func (PySem.W.fnOf "is_within" "is_within" (defArgs s_is_within) (defBody s_is_within) (defScope s_is_within) .none kV1 dc1 pm1 an1 cd1 ct1), sl1⟩) (c1 : PySem.W.codeIn K cd1 "is_within" = true) (k1 : PySem.W.keepIn K (.ref f1) = true)
    (a2 : PySem.W.nsIn K mainGlobals "is_name" = some (some (.ref f2))) (l2 : K.lookup f2 = some ⟨oc2, od2, .func (PySem.W.fnOf "is_name" "is_name" (defArgs s_is_name) (defBody s_is_name) (defScope s_is_name) .none kV2 dc2 pm2 an2 cd2 ct2), sl2⟩) (c2 : PySem.W.codeIn K cd2 "is_name" = true) (k2 : PySem.W.keepIn K (.ref f2) = true)
    (a3 : PySem.W.nsIn K mainGlobals "is_pointed" = some (some (.ref f3))) (l3 : K.lookup f3 = some ⟨oc3, od3, .func (PySem.W.fnOf "is_pointed" "is_pointed" (defArgs s_is_pointed) (defBody s_is_pointed) (defScope s_is_pointed) .none kV3 dc3 pm3 an3 cd3 ct3), sl3⟩) (c3 : PySem.W.codeIn K cd3 "is_pointed" = true) (k3 : PySem.W.keepIn K (.ref f3) = true)
    (a4 : PySem.W.nsIn K mainGlobals "is_value" = some (some (.ref f4))) (l4 : K.lookup f4 = some ⟨oc4, od4, .func (PySem.W.fnOf "is_value" "is_value" (defArgs s_is_value) (defBody s_is_value) (defScope s_is_value) .none kV4 dc4 pm4 an4 cd4 ct4), sl4⟩) (c4 : PySem.W.codeIn K cd4 "is_value" = true) (k4 : PySem.W.keepIn K (.ref f4) = true)
    (a5 : PySem.W.nsIn K mainGlobals "ops_told" = some (some (.ref f5))) (l5 : K.lookup f5 = some ⟨oc5, od5, .func (PySem.W.fnOf "ops_told" "ops_told" (defArgs s_ops_told) (defBody s_ops_told) (defScope s_ops_told) .none kV5 dc5 pm5 an5 cd5 ct5), sl5⟩) (c5 : PySem.W.codeIn K cd5 "ops_told" = true) (k5 : PySem.W.keepIn K (.ref f5) = true)
    (l6 : K.lookup f6 = some ⟨oc6, od6, .func (PySem.W.fnOf "parts" "Term.parts" (defArgs s_Term_parts) (defBody s_Term_parts) (defScope s_Term_parts) .none kV6 dc6 pm6 an6 cd6 ct6), sl6⟩) (c6 : PySem.W.codeIn K cd6 "Term.parts" = true) (k6 : PySem.W.keepIn K (.ref f6) = true)
    (y6 : PySem.W.isFn K (.ref f6) = true)
    (l7 : K.lookup f7 = some ⟨oc7, od7, .func (PySem.W.fnOf "names" "Term.names" (defArgs s_Term_names) (defBody s_Term_names) (defScope s_Term_names) .none kV7 dc7 pm7 an7 cd7 ct7), sl7⟩) (c7 : PySem.W.codeIn K cd7 "Term.names" = true) (k7 : PySem.W.keepIn K (.ref f7) = true)
    (y7 : PySem.W.isFn K (.ref f7) = true)
    (l8 : K.lookup f8 = some ⟨oc8, od8, .func (PySem.W.fnOf "levels" "Term.levels" (defArgs s_Term_levels) (defBody s_Term_levels) (defScope s_Term_levels) .none kV8 dc8 pm8 an8 cd8 ct8), sl8⟩) (c8 : PySem.W.codeIn K cd8 "Term.levels" = true) (k8 : PySem.W.keepIn K (.ref f8) = true)
    (y8 : PySem.W.isFn K (.ref f8) = true)
    (a9 : PySem.W.nsIn K mainGlobals "need_term" = some (some (.ref f9))) (l9 : K.lookup f9 = some ⟨oc9, od9, .func (PySem.W.fnOf "need_term" "need_term" (defArgs s_need_term) (defBody s_need_term) (defScope s_need_term) .none kV9 dc9 pm9 an9 cd9 ct9), sl9⟩) (c9 : PySem.W.codeIn K cd9 "need_term" = true) (k9 : PySem.W.keepIn K (.ref f9) = true)
    (l10 : K.lookup f10 = some ⟨oc10, od10, .func (PySem.W.fnOf "__init__" "Name.__init__" (defArgs s_Name_init) (defBody s_Name_init) (defScope s_Name_init) .none kV10 dc10 pm10 an10 cd10 ct10), sl10⟩) (c10 : PySem.W.codeIn K cd10 "Name.__init__" = true) (k10 : PySem.W.keepIn K (.ref f10) = true)
    (y10 : PySem.W.isFn K (.ref f10) = true)
    (l11 : K.lookup f11 = some ⟨oc11, od11, .func (PySem.W.fnOf "names" "Name.names" (defArgs s_Name_names) (defBody s_Name_names) (defScope s_Name_names) .none kV11 dc11 pm11 an11 cd11 ct11), sl11⟩) (c11 : PySem.W.codeIn K cd11 "Name.names" = true) (k11 : PySem.W.keepIn K (.ref f11) = true)
    (y11 : PySem.W.isFn K (.ref f11) = true)
    (l12 : K.lookup f12 = some ⟨oc12, od12, .func (PySem.W.fnOf "told" "Name.told" (defArgs s_Name_told) (defBody s_Name_told) (defScope s_Name_told) .none kV12 dc12 pm12 an12 cd12 ct12), sl12⟩) (c12 : PySem.W.codeIn K cd12 "Name.told" = true) (k12 : PySem.W.keepIn K (.ref f12) = true)
    (y12 : PySem.W.isFn K (.ref f12) = true)
    (l13 : K.lookup f13 = some ⟨oc13, od13, .func (PySem.W.fnOf "__init__" "Value.__init__" (defArgs s_Value_init) (defBody s_Value_init) (defScope s_Value_init) .none kV13 dc13 pm13 an13 cd13 ct13), sl13⟩) (c13 : PySem.W.codeIn K cd13 "Value.__init__" = true) (k13 : PySem.W.keepIn K (.ref f13) = true)
    (y13 : PySem.W.isFn K (.ref f13) = true)
    (l14 : K.lookup f14 = some ⟨oc14, od14, .func (PySem.W.fnOf "told" "Value.told" (defArgs s_Value_told) (defBody s_Value_told) (defScope s_Value_told) .none kV14 dc14 pm14 an14 cd14 ct14), sl14⟩) (c14 : PySem.W.codeIn K cd14 "Value.told" = true) (k14 : PySem.W.keepIn K (.ref f14) = true)
    (y14 : PySem.W.isFn K (.ref f14) = true)
    (l15 : K.lookup f15 = some ⟨oc15, od15, .func (PySem.W.fnOf "__init__" "Two.__init__" (defArgs s_Two_init) (defBody s_Two_init) (defScope s_Two_init) .none kV15 dc15 pm15 an15 cd15 ct15), sl15⟩) (c15 : PySem.W.codeIn K cd15 "Two.__init__" = true) (k15 : PySem.W.keepIn K (.ref f15) = true)
    (y15 : PySem.W.isFn K (.ref f15) = true)
    (l16 : K.lookup f16 = some ⟨oc16, od16, .func (PySem.W.fnOf "parts" "Two.parts" (defArgs s_Two_parts) (defBody s_Two_parts) (defScope s_Two_parts) .none kV16 dc16 pm16 an16 cd16 ct16), sl16⟩) (c16 : PySem.W.codeIn K cd16 "Two.parts" = true) (k16 : PySem.W.keepIn K (.ref f16) = true)
    (y16 : PySem.W.isFn K (.ref f16) = true)
    (l17 : K.lookup f17 = some ⟨oc17, od17, .func (PySem.W.fnOf "told" "Two.told" (defArgs s_Two_told) (defBody s_Two_told) (defScope s_Two_told) .none kV17 dc17 pm17 an17 cd17 ct17), sl17⟩) (c17 : PySem.W.codeIn K cd17 "Two.told" = true) (k17 : PySem.W.keepIn K (.ref f17) = true)
    (y17 : PySem.W.isFn K (.ref f17) = true)
    (l18 : K.lookup f18 = some ⟨oc18, od18, .func (PySem.W.fnOf "__init__" "Not.__init__" (defArgs s_Not_init) (defBody s_Not_init) (defScope s_Not_init) .none kV18 dc18 pm18 an18 cd18 ct18), sl18⟩) (c18 : PySem.W.codeIn K cd18 "Not.__init__" = true) (k18 : PySem.W.keepIn K (.ref f18) = true)
    (y18 : PySem.W.isFn K (.ref f18) = true)
    (l19 : K.lookup f19 = some ⟨oc19, od19, .func (PySem.W.fnOf "parts" "Not.parts" (defArgs s_Not_parts) (defBody s_Not_parts) (defScope s_Not_parts) .none kV19 dc19 pm19 an19 cd19 ct19), sl19⟩) (c19 : PySem.W.codeIn K cd19 "Not.parts" = true) (k19 : PySem.W.keepIn K (.ref f19) = true)
    (y19 : PySem.W.isFn K (.ref f19) = true)
    (l20 : K.lookup f20 = some ⟨oc20, od20, .func (PySem.W.fnOf "told" "Not.told" (defArgs s_Not_told) (defBody s_Not_told) (defScope s_Not_told) .none kV20 dc20 pm20 an20 cd20 ct20), sl20⟩) (c20 : PySem.W.codeIn K cd20 "Not.told" = true) (k20 : PySem.W.keepIn K (.ref f20) = true)
    (y20 : PySem.W.isFn K (.ref f20) = true)
    (l21 : K.lookup f21 = some ⟨oc21, od21, .func (PySem.W.fnOf "__init__" "Pick.__init__" (defArgs s_Pick_init) (defBody s_Pick_init) (defScope s_Pick_init) .none kV21 dc21 pm21 an21 cd21 ct21), sl21⟩) (c21 : PySem.W.codeIn K cd21 "Pick.__init__" = true) (k21 : PySem.W.keepIn K (.ref f21) = true)
    (y21 : PySem.W.isFn K (.ref f21) = true)
    (l22 : K.lookup f22 = some ⟨oc22, od22, .func (PySem.W.fnOf "parts" "Pick.parts" (defArgs s_Pick_parts) (defBody s_Pick_parts) (defScope s_Pick_parts) .none kV22 dc22 pm22 an22 cd22 ct22), sl22⟩) (c22 : PySem.W.codeIn K cd22 "Pick.parts" = true) (k22 : PySem.W.keepIn K (.ref f22) = true)
    (y22 : PySem.W.isFn K (.ref f22) = true)
    (l23 : K.lookup f23 = some ⟨oc23, od23, .func (PySem.W.fnOf "told" "Pick.told" (defArgs s_Pick_told) (defBody s_Pick_told) (defScope s_Pick_told) .none kV23 dc23 pm23 an23 cd23 ct23), sl23⟩) (c23 : PySem.W.codeIn K cd23 "Pick.told" = true) (k23 : PySem.W.keepIn K (.ref f23) = true)
    (y23 : PySem.W.isFn K (.ref f23) = true)
    (a24 : PySem.W.nsIn K mainGlobals "simple_of" = some (some (.ref f24))) (l24 : K.lookup f24 = some ⟨oc24, od24, .func (PySem.W.fnOf "simple_of" "simple_of" (defArgs s_simple_of) (defBody s_simple_of) (defScope s_simple_of) .none kV24 dc24 pm24 an24 cd24 ct24), sl24⟩) (c24 : PySem.W.codeIn K cd24 "simple_of" = true) (k24 : PySem.W.keepIn K (.ref f24) = true)
    (a25 : PySem.W.nsIn K mainGlobals "made_of_told" = some (some (.ref f25))) (l25 : K.lookup f25 = some ⟨oc25, od25, .func (PySem.W.fnOf "made_of_told" "made_of_told" (defArgs s_made_of_told) (defBody s_made_of_told) (defScope s_made_of_told) .none kV25 dc25 pm25 an25 cd25 ct25), sl25⟩) (c25 : PySem.W.codeIn K cd25 "made_of_told" = true) (k25 : PySem.W.keepIn K (.ref f25) = true)
    (a26 : PySem.W.nsIn K mainGlobals "term_of" = some (some (.ref f26))) (l26 : K.lookup f26 = some ⟨oc26, od26, .func (PySem.W.fnOf "term_of" "term_of" (defArgs s_term_of) (defBody s_term_of) (defScope s_term_of) .none kV26 dc26 pm26 an26 cd26 ct26), sl26⟩) (c26 : PySem.W.codeIn K cd26 "term_of" = true) (k26 : PySem.W.keepIn K (.ref f26) = true)
    (a27 : PySem.W.nsIn K mainGlobals "_law_cell_at" = some (some (.ref f27))) (l27 : K.lookup f27 = some ⟨oc27, od27, .func (PySem.W.fnOf "_law_cell_at" "_law_cell_at" (defArgs s_cell_at_l) (defBody s_cell_at_l) (defScope s_cell_at_l) .none kV27 dc27 pm27 an27 cd27 ct27), sl27⟩) (c27 : PySem.W.codeIn K cd27 "_law_cell_at" = true) (k27 : PySem.W.keepIn K (.ref f27) = true)
    (a28 : PySem.W.nsIn K mainGlobals "_law_box" = some (some (.ref f28))) (l28 : K.lookup f28 = some ⟨oc28, od28, .func (PySem.W.fnOf "_law_box" "_law_box" (defArgs s_box_l) (defBody s_box_l) (defScope s_box_l) .none kV28 dc28 pm28 an28 cd28 ct28), sl28⟩) (c28 : PySem.W.codeIn K cd28 "_law_box" = true) (k28 : PySem.W.keepIn K (.ref f28) = true)
    (a29 : PySem.W.nsIn K mainGlobals "_law_take" = some (some (.ref f29))) (l29 : K.lookup f29 = some ⟨oc29, od29, .func (PySem.W.fnOf "_law_take" "_law_take" (defArgs s_take_l) (defBody s_take_l) (defScope s_take_l) .none kV29 dc29 pm29 an29 cd29 ct29), sl29⟩) (c29 : PySem.W.codeIn K cd29 "_law_take" = true) (k29 : PySem.W.keepIn K (.ref f29) = true)
    (a30 : PySem.W.nsIn K mainGlobals "_law_value" = some (some (.ref f30))) (l30 : K.lookup f30 = some ⟨oc30, od30, .func (PySem.W.fnOf "_law_value" "_law_value" (defArgs s_value_l) (defBody s_value_l) (defScope s_value_l) .none kV30 dc30 pm30 an30 cd30 ct30), sl30⟩) (c30 : PySem.W.codeIn K cd30 "_law_value" = true) (k30 : PySem.W.keepIn K (.ref f30) = true)
    (a31 : PySem.W.nsIn K mainGlobals "_law_told" = some (some (.ref f31))) (l31 : K.lookup f31 = some ⟨oc31, od31, .func (PySem.W.fnOf "_law_told" "_law_told" (defArgs s_told_l) (defBody s_told_l) (defScope s_told_l) .none kV31 dc31 pm31 an31 cd31 ct31), sl31⟩) (c31 : PySem.W.codeIn K cd31 "_law_told" = true) (k31 : PySem.W.keepIn K (.ref f31) = true)
    (a32 : PySem.W.nsIn K mainGlobals "_law_made" = some (some (.ref f32))) (l32 : K.lookup f32 = some ⟨oc32, od32, .func (PySem.W.fnOf "_law_made" "_law_made" (defArgs s_made_l) (defBody s_made_l) (defScope s_made_l) .none kV32 dc32 pm32 an32 cd32 ct32), sl32⟩) (c32 : PySem.W.codeIn K cd32 "_law_made" = true) (k32 : PySem.W.keepIn K (.ref f32) = true)
    (a33 : PySem.W.nsIn K mainGlobals "_law_names" = some (some (.ref f33))) (l33 : K.lookup f33 = some ⟨oc33, od33, .func (PySem.W.fnOf "_law_names" "_law_names" (defArgs s_names_l) (defBody s_names_l) (defScope s_names_l) .none kV33 dc33 pm33 an33 cd33 ct33), sl33⟩) (c33 : PySem.W.codeIn K cd33 "_law_names" = true) (k33 : PySem.W.keepIn K (.ref f33) = true)
    (a34 : PySem.W.nsIn K mainGlobals "_law_levels" = some (some (.ref f34))) (l34 : K.lookup f34 = some ⟨oc34, od34, .func (PySem.W.fnOf "_law_levels" "_law_levels" (defArgs s_levels_l) (defBody s_levels_l) (defScope s_levels_l) .none kV34 dc34 pm34 an34 cd34 ct34), sl34⟩) (c34 : PySem.W.codeIn K cd34 "_law_levels" = true) (k34 : PySem.W.keepIn K (.ref f34) = true)
    (a35 : PySem.W.nsIn K mainGlobals "_law_right" = some (some (.ref f35))) (l35 : K.lookup f35 = some ⟨oc35, od35, .func (PySem.W.fnOf "_law_right" "_law_right" (defArgs s_right_l) (defBody s_right_l) (defScope s_right_l) .none kV35 dc35 pm35 an35 cd35 ct35), sl35⟩) (c35 : PySem.W.codeIn K cd35 "_law_right" = true) (k35 : PySem.W.keepIn K (.ref f35) = true)
    (a36 : PySem.W.nsIn K mainGlobals "law" = some (some (.ref f36))) (l36 : K.lookup f36 = some ⟨oc36, od36, .func (PySem.W.fnOf "law" "law" (defArgs s_law) (defBody s_law) (defScope s_law) .none kV36 dc36 pm36 an36 cd36 ct36), sl36⟩) (c36 : PySem.W.codeIn K cd36 "law" = true) (k36 : PySem.W.keepIn K (.ref f36) = true)
    (fact_dif : difB [c_Name, c_Value, c_Two, c_Not, c_Pick] = true)
    (fact_is_Name : subB K c_Name c_Term = true)
    (fact_is_Value : subB K c_Value c_Term = true)
    (fact_is_Two : subB K c_Two c_Term = true)
    (fact_is_Not : subB K c_Not c_Term = true)
    (fact_is_Pick : subB K c_Pick c_Term = true)
    (n_all : PySem.W.nsIn K mainGlobals "all" = some none)
    (n_bool : PySem.W.nsIn K mainGlobals "bool" = some none)
    (n_int : PySem.W.nsIn K mainGlobals "int" = some none)
    (n_isinstance : PySem.W.nsIn K mainGlobals "isinstance" = some none)
    (n_len : PySem.W.nsIn K mainGlobals "len" = some none)
    (n_list : PySem.W.nsIn K mainGlobals "list" = some none)
    (n_max : PySem.W.nsIn K mainGlobals "max" = some none)
    (n_min : PySem.W.nsIn K mainGlobals "min" = some none)
    (n_range : PySem.W.nsIn K mainGlobals "range" = some none)
    (n_repr : PySem.W.nsIn K mainGlobals "repr" = some none)
    (n_str : PySem.W.nsIn K mainGlobals "str" = some none)
    (n_tuple : PySem.W.nsIn K mainGlobals "tuple" = some none)
    {t_LETTERS : Tok} (c_LETTERS : PySem.W.nsIn K mainGlobals "LETTERS" = some (some (.str "abcdefghijklmnopqrstuvwxyz" t_LETTERS)))
    {t_LONGEST : Tok} (c_LONGEST : PySem.W.nsIn K mainGlobals "LONGEST" = some (some (.int 8 t_LONGEST)))
    {t_MOST : Tok} (c_MOST : PySem.W.nsIn K mainGlobals "MOST" = some (some (.int 1000000000 t_MOST)))
    {t_MOST_LEVELS : Tok} (c_MOST_LEVELS : PySem.W.nsIn K mainGlobals "MOST_LEVELS" = some (some (.int 5 t_MOST_LEVELS)))
    {t_MOST_SIGNS : Tok} (c_MOST_SIGNS : PySem.W.nsIn K mainGlobals "MOST_SIGNS" = some (some (.int 80 t_MOST_SIGNS)))
    {a_OPS : Addr} {dd_OPS : Option Addr} {its_OPS : Array Value} {n_OPS : Nat} {sl_OPS : Array (Option Value)} (c_OPS : PySem.W.nsIn K mainGlobals "OPS" = some (some (.ref a_OPS))) (l_OPS : K.lookup a_OPS = some ⟨.type "tuple", dd_OPS, .seq its_OPS n_OPS, sl_OPS⟩) (v_OPS : Vals [.str "+", .str "-", .str "*", .str "/", .str "mod", .str "<", .str "=", .str "&", .str "|"] its_OPS.toList) (z_OPS : its_OPS.size ≤ sizeLine)
    {a_OWN : Addr} {dd_OWN : Option Addr} {its_OWN : Array Value} {n_OWN : Nat} {sl_OWN : Array (Option Value)} (c_OWN : PySem.W.nsIn K mainGlobals "OWN" = some (some (.ref a_OWN))) (l_OWN : K.lookup a_OWN = some ⟨.type "tuple", dd_OWN, .seq its_OWN n_OWN, sl_OWN⟩) (v_OWN : Vals [.str "node", .str "in", .str "out", .str "before", .str "when", .str "hold", .str "like", .str "same", .str "call", .str "true", .str "false", .str "mod", .str "beat", .str "desk"] its_OWN.toList) (z_OWN : its_OWN.size ≤ sizeLine)
    : ∃ fd : FuncData, (∀ (s : Shared) (v : Value), BindsTo s fd ⟨[v], []⟩ [("_law_script", v)]) ∧ ∀ base : Heap, K.In base → base.Ns mainGlobals mg → FnG l.prog w K mg base CX0 20 fa fd ["_law_script"] (sp_law K) := by
  have e := hfa.symm.trans (PySem.W.mg_of X G a36)
  cases e
  have F0 := fun_mk (st := s_is_whole) l0 c0 k0
  have b0 := F0.binds (ps := ["thing"]) fun _ _ _ _ _ _ us hl => match us, hl with | [_], _ => rfl
  have F1 := fun_mk (st := s_is_within) l1 c1 k1
  have b1 := F1.binds (ps := ["thing", "low", "high"]) fun _ _ _ _ _ _ us hl => match us, hl with | [_, _, _], _ => rfl
  have F2 := fun_mk (st := s_is_name) l2 c2 k2
  have b2 := F2.binds (ps := ["thing"]) fun _ _ _ _ _ _ us hl => match us, hl with | [_], _ => rfl
  have F3 := fun_mk (st := s_is_pointed) l3 c3 k3
  have b3 := F3.binds (ps := ["thing"]) fun _ _ _ _ _ _ us hl => match us, hl with | [_], _ => rfl
  have F4 := fun_mk (st := s_is_value) l4 c4 k4
  have b4 := F4.binds (ps := ["thing"]) fun _ _ _ _ _ _ us hl => match us, hl with | [_], _ => rfl
  have F5 := fun_mk (st := s_ops_told) l5 c5 k5
  have b5 := F5.binds (ps := []) fun _ _ _ _ _ _ us hl => match us, hl with | [], _ => rfl
  have F6 := fun_mk (st := s_Term_parts) l6 c6 k6
  have b6 := F6.binds (ps := ["self"]) fun _ _ _ _ _ _ us hl => match us, hl with | [_], _ => rfl
  have F7 := fun_mk (st := s_Term_names) l7 c7 k7
  have b7 := F7.binds (ps := ["self"]) fun _ _ _ _ _ _ us hl => match us, hl with | [_], _ => rfl
  have F8 := fun_mk (st := s_Term_levels) l8 c8 k8
  have b8 := F8.binds (ps := ["self"]) fun _ _ _ _ _ _ us hl => match us, hl with | [_], _ => rfl
  have F9 := fun_mk (st := s_need_term) l9 c9 k9
  have b9 := F9.binds (ps := ["thing"]) fun _ _ _ _ _ _ us hl => match us, hl with | [_], _ => rfl
  have F10 := fun_mk (st := s_Name_init) l10 c10 k10
  have b10 := F10.binds (ps := ["self", "name"]) fun _ _ _ _ _ _ us hl => match us, hl with | [_, _], _ => rfl
  have F11 := fun_mk (st := s_Name_names) l11 c11 k11
  have b11 := F11.binds (ps := ["self"]) fun _ _ _ _ _ _ us hl => match us, hl with | [_], _ => rfl
  have F12 := fun_mk (st := s_Name_told) l12 c12 k12
  have b12 := F12.binds (ps := ["self"]) fun _ _ _ _ _ _ us hl => match us, hl with | [_], _ => rfl
  have F13 := fun_mk (st := s_Value_init) l13 c13 k13
  have b13 := F13.binds (ps := ["self", "value"]) fun _ _ _ _ _ _ us hl => match us, hl with | [_, _], _ => rfl
  have F14 := fun_mk (st := s_Value_told) l14 c14 k14
  have b14 := F14.binds (ps := ["self"]) fun _ _ _ _ _ _ us hl => match us, hl with | [_], _ => rfl
  have F15 := fun_mk (st := s_Two_init) l15 c15 k15
  have b15 := F15.binds (ps := ["self", "op", "one", "other"]) fun _ _ _ _ _ _ us hl => match us, hl with | [_, _, _, _], _ => rfl
  have F16 := fun_mk (st := s_Two_parts) l16 c16 k16
  have b16 := F16.binds (ps := ["self"]) fun _ _ _ _ _ _ us hl => match us, hl with | [_], _ => rfl
  have F17 := fun_mk (st := s_Two_told) l17 c17 k17
  have b17 := F17.binds (ps := ["self"]) fun _ _ _ _ _ _ us hl => match us, hl with | [_], _ => rfl
  have F18 := fun_mk (st := s_Not_init) l18 c18 k18
  have b18 := F18.binds (ps := ["self", "one"]) fun _ _ _ _ _ _ us hl => match us, hl with | [_, _], _ => rfl
  have F19 := fun_mk (st := s_Not_parts) l19 c19 k19
  have b19 := F19.binds (ps := ["self"]) fun _ _ _ _ _ _ us hl => match us, hl with | [_], _ => rfl
  have F20 := fun_mk (st := s_Not_told) l20 c20 k20
  have b20 := F20.binds (ps := ["self"]) fun _ _ _ _ _ _ us hl => match us, hl with | [_], _ => rfl
  have F21 := fun_mk (st := s_Pick_init) l21 c21 k21
  have b21 := F21.binds (ps := ["self", "by", "one", "other"]) fun _ _ _ _ _ _ us hl => match us, hl with | [_, _, _, _], _ => rfl
  have F22 := fun_mk (st := s_Pick_parts) l22 c22 k22
  have b22 := F22.binds (ps := ["self"]) fun _ _ _ _ _ _ us hl => match us, hl with | [_], _ => rfl
  have F23 := fun_mk (st := s_Pick_told) l23 c23 k23
  have b23 := F23.binds (ps := ["self"]) fun _ _ _ _ _ _ us hl => match us, hl with | [_], _ => rfl
  have F24 := fun_mk (st := s_simple_of) l24 c24 k24
  have b24 := F24.binds (ps := ["word", "thing"]) fun _ _ _ _ _ _ us hl => match us, hl with | [_, _], _ => rfl
  have F25 := fun_mk (st := s_made_of_told) l25 c25 k25
  have b25 := F25.binds (ps := ["told", "left"]) fun _ _ _ _ _ _ us hl => match us, hl with | [_, _], _ => rfl
  have F26 := fun_mk (st := s_term_of) l26 c26 k26
  have b26 := F26.binds (ps := ["told"]) fun _ _ _ _ _ _ us hl => match us, hl with | [_], _ => rfl
  have F27 := fun_mk (st := s_cell_at_l) l27 c27 k27
  have b27 := F27.binds (ps := ["_law_script", "_law_k"]) fun _ _ _ _ _ _ us hl => match us, hl with | [_, _], _ => rfl
  have F28 := fun_mk (st := s_box_l) l28 c28 k28
  have b28 := F28.binds (ps := ["_law_cell"]) fun _ _ _ _ _ _ us hl => match us, hl with | [_], _ => rfl
  have F29 := fun_mk (st := s_take_l) l29 c29 k29
  have b29 := F29.binds (ps := ["_law_box_here", "_law_many"]) fun _ _ _ _ _ _ us hl => match us, hl with | [_, _], _ => rfl
  have F30 := fun_mk (st := s_value_l) l30 c30 k30
  have b30 := F30.binds (ps := ["_law_box_here"]) fun _ _ _ _ _ _ us hl => match us, hl with | [_], _ => rfl
  have F31 := fun_mk (st := s_told_l) l31 c31 k31
  have b31 := F31.binds (ps := ["_law_box_here", "_law_left", "_law_names_here"]) fun _ _ _ _ _ _ us hl => match us, hl with | [_, _, _], _ => rfl
  have F32 := fun_mk (st := s_made_l) l32 c32 k32
  have b32 := F32.binds (ps := ["_law_told_here"]) fun _ _ _ _ _ _ us hl => match us, hl with | [_], _ => rfl
  have F33 := fun_mk (st := s_names_l) l33 c33 k33
  have b33 := F33.binds (ps := ["_law_told_here"]) fun _ _ _ _ _ _ us hl => match us, hl with | [_], _ => rfl
  have F34 := fun_mk (st := s_levels_l) l34 c34 k34
  have b34 := F34.binds (ps := ["_law_told_here"]) fun _ _ _ _ _ _ us hl => match us, hl with | [_], _ => rfl
  have F35 := fun_mk (st := s_right_l) l35 c35 k35
  have b35 := F35.binds (ps := ["_law_term", "_law_told_here"]) fun _ _ _ _ _ _ us hl => match us, hl with | [_, _], _ => rfl
  have F36 := fun_mk (st := s_law) l36 c36 k36
  have b36 := F36.binds (ps := ["_law_script"]) fun _ _ _ _ _ _ us hl => match us, hl with | [_], _ => rfl
  have T : Txt K mg ⟨f0, _, f1, _, f2, _, f3, _, f4, _, f5, _, f6, _, f7, _, f8, _, f9, _, f10, _, f11, _, f12, _, f13, _, f14, _, f15, _, f16, _, f17, _, f18, _, f19, _, f20, _, f21, _, f22, _, f23, _, f24, _, f25, _, f26, _, f27, _, f28, _, f29, _, f30, _, f31, _, f32, _, f33, _, f34, _, f35, _, fa, _, a_OPS, a_OWN, c_Term, c_Name, c_Value, c_Two, c_Not, c_Pick⟩ := ⟨F0, b0, PySem.W.mg_of X G a0, F1, b1, PySem.W.mg_of X G a1, F2, b2, PySem.W.mg_of X G a2, F3, b3, PySem.W.mg_of X G a3, F4, b4, PySem.W.mg_of X G a4, F5, b5, PySem.W.mg_of X G a5, F6, b6, y6, F7, b7, y7, F8, b8, y8, F9, b9, PySem.W.mg_of X G a9, F10, b10, y10, F11, b11, y11, F12, b12, y12, F13, b13, y13, F14, b14, y14, F15, b15, y15, F16, b16, y16, F17, b17, y17, F18, b18, y18, F19, b19, y19, F20, b20, y20, F21, b21, y21, F22, b22, y22, F23, b23, y23, F24, b24, PySem.W.mg_of X G a24, F25, b25, PySem.W.mg_of X G a25, F26, b26, PySem.W.mg_of X G a26, F27, b27, PySem.W.mg_of X G a27, F28, b28, PySem.W.mg_of X G a28, F29, b29, PySem.W.mg_of X G a29, F30, b30, PySem.W.mg_of X G a30, F31, b31, PySem.W.mg_of X G a31, F32, b32, PySem.W.mg_of X G a32, F33, b33, PySem.W.mg_of X G a33, F34, b34, PySem.W.mg_of X G a34, F35, b35, PySem.W.mg_of X G a35, F36, b36, PySem.W.mg_of X G a36, PySem.W.mg_of X G m_Term, PySem.W.mg_of X G m_Name, x_Name, i_Name, h_parts_Name, h_names_Name, h_levels_Name, h_told_Name, PySem.W.mg_of X G m_Value, x_Value, i_Value, h_parts_Value, h_names_Value, h_levels_Value, h_told_Value, PySem.W.mg_of X G m_Two, x_Two, i_Two, h_parts_Two, h_names_Two, h_levels_Two, h_told_Two, PySem.W.mg_of X G m_Not, x_Not, i_Not, h_parts_Not, h_names_Not, h_levels_Not, h_told_Not, PySem.W.mg_of X G m_Pick, x_Pick, i_Pick, h_parts_Pick, h_names_Pick, h_levels_Pick, h_told_Pick, fact_dif, fact_is_Name, fact_is_Value, fact_is_Two, fact_is_Not, fact_is_Pick, PySem.W.mg_none_of X G n_all, PySem.W.mg_none_of X G n_bool, PySem.W.mg_none_of X G n_int, PySem.W.mg_none_of X G n_isinstance, PySem.W.mg_none_of X G n_len, PySem.W.mg_none_of X G n_list, PySem.W.mg_none_of X G n_max, PySem.W.mg_none_of X G n_min, PySem.W.mg_none_of X G n_range, PySem.W.mg_none_of X G n_repr, PySem.W.mg_none_of X G n_str, PySem.W.mg_none_of X G n_tuple, ⟨_, PySem.W.mg_of X G c_LETTERS, ⟨_, rfl⟩⟩, ⟨_, PySem.W.mg_of X G c_LONGEST, ⟨_, rfl⟩⟩, ⟨_, PySem.W.mg_of X G c_MOST, ⟨_, rfl⟩⟩, ⟨_, PySem.W.mg_of X G c_MOST_LEVELS, ⟨_, rfl⟩⟩, ⟨_, PySem.W.mg_of X G c_MOST_SIGNS, ⟨_, rfl⟩⟩, ⟨_, PySem.W.mg_of X G c_OPS, rfl⟩, fun H => .inr ⟨_, _, _, l_OPS, rfl, rfl, z_OPS, v_OPS⟩, ⟨_, PySem.W.mg_of X G c_OWN, rfl⟩, fun H => .inr ⟨_, _, _, l_OWN, rfl, rfl, z_OWN, v_OWN⟩⟩
  exact ⟨_, fun s v => .of_eq rfl, fun base _ _ => ok_law T⟩
theorem walk {l : PySem.W.OpenLaw} {q : Program} {loose : List Str} {XP : (Str → Option Value) → Heap → Prop} {YP : World → Heap → Prop} {d : DefRec} {K : Params → PySem.W.Frag} (hn : l.most = some 63) (hdf : d.params.defaults = []) (hY : ∀ (w : World) (h : Heap), YP w h → (K w.params).In h)
    (F : ∀ (w : World) (mg : Str → Option Value) (fa : Addr) (h : Heap), (K w.params).In h → h.Ns mainGlobals mg → mg d.name = some (.ref fa) → ∃ fd : FuncData, (∀ (s : Shared) (u : Value), BindsTo s fd ⟨[u], []⟩ [("_law_script", u)]) ∧ ∀ base : Heap, (K w.params).In base → base.Ns mainGlobals mg → FnG l.prog w (K w.params) mg base CX0 20 fa fd ["_law_script"] (sp_law (K w.params))) :
    PySem.W.WalkO q loose XP YP l.row.toRowW d [] (fun f vs => PySem.call f vs) :=
  L2.walk_ofG (n := 63) (k := 20) (x := "_law_script") (CX := CX0) (sp := sp_law) hn (by decide) hdf ⟨rfl, by decide, by decide⟩ hY F (fun _ _ a ns hl _ hS => ⟨a, ns, rfl, hS, hl, fun _ => rfl⟩) fun _ _ _ _ z => z
end Toy

open PySem PySem.W PyProof.Rows in
set_option maxRecDepth 100000 in
set_option maxHeartbeats 0 in
theorem PySem.Challenge.cw_beatrows_k22_terms_told_holds : PySem.Challenge.rw_beatrows_k22_terms_told.Holds := by
  w_on; o_law; k_head; (case hw => w_witness2)
  k_fill
  refine Toy.walk (l := PySem.Challenge.rw_beatrows_k22_terms_told) rfl rfl (fun w h Y => PySem.W.kIn_of Y) ?F
  case F =>
    intro w mg fa h KX G hmg
    refine' Toy.all_mk KX G hmg ?m_Term ?m_Name ?x_Name ?i_Name ?h_parts_Name ?h_names_Name ?h_levels_Name ?h_told_Name ?m_Value ?x_Value ?i_Value ?h_parts_Value ?h_names_Value ?h_levels_Value ?h_told_Value ?m_Two ?x_Two ?i_Two ?h_parts_Two ?h_names_Two ?h_levels_Two ?h_told_Two ?m_Not ?x_Not ?i_Not ?h_parts_Not ?h_names_Not ?h_levels_Not ?h_told_Not ?m_Pick ?x_Pick ?i_Pick ?h_parts_Pick ?h_names_Pick ?h_levels_Pick ?h_told_Pick ?a0 ?l0 ?c0 ?k0 ?a1 ?l1 ?c1 ?k1 ?a2 ?l2 ?c2 ?k2 ?a3 ?l3 ?c3 ?k3 ?a4 ?l4 ?c4 ?k4 ?a5 ?l5 ?c5 ?k5 ?l6 ?c6 ?k6 ?y6 ?l7 ?c7 ?k7 ?y7 ?l8 ?c8 ?k8 ?y8 ?a9 ?l9 ?c9 ?k9 ?l10 ?c10 ?k10 ?y10 ?l11 ?c11 ?k11 ?y11 ?l12 ?c12 ?k12 ?y12 ?l13 ?c13 ?k13 ?y13 ?l14 ?c14 ?k14 ?y14 ?l15 ?c15 ?k15 ?y15 ?l16 ?c16 ?k16 ?y16 ?l17 ?c17 ?k17 ?y17 ?l18 ?c18 ?k18 ?y18 ?l19 ?c19 ?k19 ?y19 ?l20 ?c20 ?k20 ?y20 ?l21 ?c21 ?k21 ?y21 ?l22 ?c22 ?k22 ?y22 ?l23 ?c23 ?k23 ?y23 ?a24 ?l24 ?c24 ?k24 ?a25 ?l25 ?c25 ?k25 ?a26 ?l26 ?c26 ?k26 ?a27 ?l27 ?c27 ?k27 ?a28 ?l28 ?c28 ?k28 ?a29 ?l29 ?c29 ?k29 ?a30 ?l30 ?c30 ?k30 ?a31 ?l31 ?c31 ?k31 ?a32 ?l32 ?c32 ?k32 ?a33 ?l33 ?c33 ?k33 ?a34 ?l34 ?c34 ?k34 ?a35 ?l35 ?c35 ?k35 ?a36 ?l36 ?c36 ?k36 ?fact_dif ?fact_is_Name ?fact_is_Value ?fact_is_Two ?fact_is_Not ?fact_is_Pick ?n_all ?n_bool ?n_int ?n_isinstance ?n_len ?n_list ?n_max ?n_min ?n_range ?n_repr ?n_str ?n_tuple ?c_LETTERS ?c_LONGEST ?c_MOST ?c_MOST_LEVELS ?c_MOST_SIGNS ?c_OPS ?l_OPS ?v_OPS ?z_OPS ?c_OWN ?l_OWN ?v_OWN ?z_OWN
    (case m_Term => k_is)
    (case m_Name => k_is)
    (case x_Name => kernel_rfl)
    (case i_Name => k_is)
    (case h_parts_Name => k_is)
    (case h_names_Name => k_is)
    (case h_levels_Name => k_is)
    (case h_told_Name => k_is)
    (case m_Value => k_is)
    (case x_Value => kernel_rfl)
    (case i_Value => k_is)
    (case h_parts_Value => k_is)
    (case h_names_Value => k_is)
    (case h_levels_Value => k_is)
    (case h_told_Value => k_is)
    (case m_Two => k_is)
    (case x_Two => kernel_rfl)
    (case i_Two => k_is)
    (case h_parts_Two => k_is)
    (case h_names_Two => k_is)
    (case h_levels_Two => k_is)
    (case h_told_Two => k_is)
    (case m_Not => k_is)
    (case x_Not => kernel_rfl)
    (case i_Not => k_is)
    (case h_parts_Not => k_is)
    (case h_names_Not => k_is)
    (case h_levels_Not => k_is)
    (case h_told_Not => k_is)
    (case m_Pick => k_is)
    (case x_Pick => kernel_rfl)
    (case i_Pick => k_is)
    (case h_parts_Pick => k_is)
    (case h_names_Pick => k_is)
    (case h_levels_Pick => k_is)
    (case h_told_Pick => k_is)
    (case a0 => k_is)
    (case l0 => k_is)
    (case c0 => k_is)
    (case k0 => k_is)
    (case a1 => k_is)
    (case l1 => k_is)
    (case c1 => k_is)
    (case k1 => k_is)
    (case a2 => k_is)
    (case l2 => k_is)
    (case c2 => k_is)
    (case k2 => k_is)
    (case a3 => k_is)
    (case l3 => k_is)
    (case c3 => k_is)
    (case k3 => k_is)
    (case a4 => k_is)
    (case l4 => k_is)
    (case c4 => k_is)
    (case k4 => k_is)
    (case a5 => k_is)
    (case l5 => k_is)
    (case c5 => k_is)
    (case k5 => k_is)
    (case l6 => k_is)
    (case c6 => k_is)
    (case k6 => k_is)
    (case y6 => k_is)
    (case l7 => k_is)
    (case c7 => k_is)
    (case k7 => k_is)
    (case y7 => k_is)
    (case l8 => k_is)
    (case c8 => k_is)
    (case k8 => k_is)
    (case y8 => k_is)
    (case a9 => k_is)
    (case l9 => k_is)
    (case c9 => k_is)
    (case k9 => k_is)
    (case l10 => k_is)
    (case c10 => k_is)
    (case k10 => k_is)
    (case y10 => k_is)
    (case l11 => k_is)
    (case c11 => k_is)
    (case k11 => k_is)
    (case y11 => k_is)
    (case l12 => k_is)
    (case c12 => k_is)
    (case k12 => k_is)
    (case y12 => k_is)
    (case l13 => k_is)
    (case c13 => k_is)
    (case k13 => k_is)
    (case y13 => k_is)
    (case l14 => k_is)
    (case c14 => k_is)
    (case k14 => k_is)
    (case y14 => k_is)
    (case l15 => k_is)
    (case c15 => k_is)
    (case k15 => k_is)
    (case y15 => k_is)
    (case l16 => k_is)
    (case c16 => k_is)
    (case k16 => k_is)
    (case y16 => k_is)
    (case l17 => k_is)
    (case c17 => k_is)
    (case k17 => k_is)
    (case y17 => k_is)
    (case l18 => k_is)
    (case c18 => k_is)
    (case k18 => k_is)
    (case y18 => k_is)
    (case l19 => k_is)
    (case c19 => k_is)
    (case k19 => k_is)
    (case y19 => k_is)
    (case l20 => k_is)
    (case c20 => k_is)
    (case k20 => k_is)
    (case y20 => k_is)
    (case l21 => k_is)
    (case c21 => k_is)
    (case k21 => k_is)
    (case y21 => k_is)
    (case l22 => k_is)
    (case c22 => k_is)
    (case k22 => k_is)
    (case y22 => k_is)
    (case l23 => k_is)
    (case c23 => k_is)
    (case k23 => k_is)
    (case y23 => k_is)
    (case a24 => k_is)
    (case l24 => k_is)
    (case c24 => k_is)
    (case k24 => k_is)
    (case a25 => k_is)
    (case l25 => k_is)
    (case c25 => k_is)
    (case k25 => k_is)
    (case a26 => k_is)
    (case l26 => k_is)
    (case c26 => k_is)
    (case k26 => k_is)
    (case a27 => k_is)
    (case l27 => k_is)
    (case c27 => k_is)
    (case k27 => k_is)
    (case a28 => k_is)
    (case l28 => k_is)
    (case c28 => k_is)
    (case k28 => k_is)
    (case a29 => k_is)
    (case l29 => k_is)
    (case c29 => k_is)
    (case k29 => k_is)
    (case a30 => k_is)
    (case l30 => k_is)
    (case c30 => k_is)
    (case k30 => k_is)
    (case a31 => k_is)
    (case l31 => k_is)
    (case c31 => k_is)
    (case k31 => k_is)
    (case a32 => k_is)
    (case l32 => k_is)
    (case c32 => k_is)
    (case k32 => k_is)
    (case a33 => k_is)
    (case l33 => k_is)
    (case c33 => k_is)
    (case k33 => k_is)
    (case a34 => k_is)
    (case l34 => k_is)
    (case c34 => k_is)
    (case k34 => k_is)
    (case a35 => k_is)
    (case l35 => k_is)
    (case c35 => k_is)
    (case k35 => k_is)
    (case a36 => k_is)
    (case l36 => k_is)
    (case c36 => k_is)
    (case k36 => k_is)
    (case fact_dif => kernel_rfl)
    (case fact_is_Name => kernel_rfl)
    (case fact_is_Value => kernel_rfl)
    (case fact_is_Two => kernel_rfl)
    (case fact_is_Not => kernel_rfl)
    (case fact_is_Pick => kernel_rfl)
    (case n_all => k_is)
    (case n_bool => k_is)
    (case n_int => k_is)
    (case n_isinstance => k_is)
    (case n_len => k_is)
    (case n_list => k_is)
    (case n_max => k_is)
    (case n_min => k_is)
    (case n_range => k_is)
    (case n_repr => k_is)
    (case n_str => k_is)
    (case n_tuple => k_is)
    (case c_LETTERS => k_is)
    (case c_LONGEST => k_is)
    (case c_MOST => k_is)
    (case c_MOST_LEVELS => k_is)
    (case c_MOST_SIGNS => k_is)
    (case c_OPS => k_is)
    (case l_OPS => k_is)
    (case v_OPS => exact .cons ⟨_, rfl⟩ (.cons ⟨_, rfl⟩ (.cons ⟨_, rfl⟩ (.cons ⟨_, rfl⟩ (.cons ⟨_, rfl⟩ (.cons ⟨_, rfl⟩ (.cons ⟨_, rfl⟩ (.cons ⟨_, rfl⟩ (.cons ⟨_, rfl⟩ (.nil))))))))))
    (case z_OPS => decide)
    (case c_OWN => k_is)
    (case l_OWN => k_is)
    (case v_OWN => exact .cons ⟨_, rfl⟩ (.cons ⟨_, rfl⟩ (.cons ⟨_, rfl⟩ (.cons ⟨_, rfl⟩ (.cons ⟨_, rfl⟩ (.cons ⟨_, rfl⟩ (.cons ⟨_, rfl⟩ (.cons ⟨_, rfl⟩ (.cons ⟨_, rfl⟩ (.cons ⟨_, rfl⟩ (.cons ⟨_, rfl⟩ (.cons ⟨_, rfl⟩ (.cons ⟨_, rfl⟩ (.cons ⟨_, rfl⟩ (.nil)))))))))))))))
    (case z_OWN => decide)
