import PyProof.Rows.All
import Wide.All
import OpenK.AllK
import Wide.FinOn
import HandS.ForMost
import HandS.IsInst
import HandS.Flow
import HandS.Evl
import PySem.Challenge.RW_beatrows_k13_reckoned_by_operators
set_option Elab.async false
set_option linter.all false
set_option maxRecDepth 100000
set_option maxHeartbeats 4000000
/-! ### own small rules -/
namespace L2
open PySem PySem.Spec PyProof.Rows
section
variable {X : Cx}
theorem pe_gcst {x : Str} {v : V} {pos : Pos} (hg : Gl X x) (h : ∃ u, X.mg x = some u ∧ RelV v u) (hd : (x == ("__debug__" : Str)) = false := by decide) : PE X (.Name x pos) (tC v) :=
  let ⟨_, hm, r⟩ := h
  pe_glob hg hm r hd
/-- divmod by any divisor but nought, below 2^30 -/
theorem call_divmodN : CallR X (.builtin "divmod") (fun xs H Q => ∃ i j : Int, xs = [.int i, .int j] ∧ CDivN i j ∧ ∀ p, H p = none → Q (.ref p) (upd H p (.tup [.int (i.fdiv j), .int (i.fmod j)]))) := by
  intro pins s σ H xs us Q I r h
  obtain ⟨i, j, rfl, ⟨h1, h2⟩, q⟩ := h
  obtain ⟨u, w', rfl, ⟨t, rfl⟩, ⟨t', rfl⟩⟩ := vals2 r
  refine divmod_int h1 ?_ (.inl (PyProof.noPylong_small h2))
  have hn := I.hok.fresh (Nat.le_refl s.heap.objs.size)
  refine ⟨.ref s.heap.objs.size, upd H s.heap.objs.size (.tup [.int (i.fdiv j), .int (i.fmod j)]), ?_, rfl, q _ hn⟩
  refine I.laid (fun b o e => Heap.get?_push_of_some _ e) (Nat.le_refl _) ?_
  refine ⟨by show 2 ≤ sizeLine; decide, [.int (i.fdiv j) s.toks, .int (i.fmod j) (s.toks + 1)], ?_, ?_⟩
  · exact .cons ⟨_, rfl⟩ (.cons ⟨_, rfl⟩ .nil)
  · exact ⟨_, Heap.get?_push_size s.heap rfl, rfl, 0, rfl⟩
end
/-- a new tuple, a new list of these, all else kept -/
def RetT (xs : List V) (H : Hp) (Q : VK) : Prop := ∀ p H2, H p = none → Evl.Ex H H2 → H2 p = some (.tup xs) → Q (.ref p) H2
def RetL (xs : List V) (H : Hp) (Q : VK) : Prop := ∀ p H2, H p = none → Evl.Ex H H2 → H2 p = some (.lst xs) → Q (.ref p) H2
def RetV (v : V) (H : Hp) (Q : VK) : Prop := ∀ H2, Evl.Ex H H2 → Q v H2
theorem RetT.up {xs : List V} {H0 H : Hp} {Q : VK} (k : RetT xs H0 Q) (e : Evl.Ex H0 H) : RetT xs H Q := fun p H2 hp e2 h2 => k p H2 (Evl.fresh_back e hp) (e.trans e2) h2
theorem RetL.up {xs : List V} {H0 H : Hp} {Q : VK} (k : RetL xs H0 Q) (e : Evl.Ex H0 H) : RetL xs H Q := fun p H2 hp e2 h2 => k p H2 (Evl.fresh_back e hp) (e.trans e2) h2
theorem RetV.up {v : V} {H0 H : Hp} {Q : VK} (k : RetV v H0 Q) (e : Evl.Ex H0 H) : RetV v H Q := fun H2 e2 => k H2 (e.trans e2)
def NewT (xs : List V) (H : Hp) (Q : VK) : Prop := xs.length ≤ sizeLine ∧ ∀ p, H p = none → Q (.ref p) (upd H p (.tup xs))
def NewL (xs : List V) (H : Hp) (Q : VK) : Prop := xs.length ≤ sizeLine ∧ ∀ p, H p = none → Q (.ref p) (upd H p (.lst xs))
theorem newT {xs : List V} {H : Hp} {Q : VK} (k : RetT xs H Q) (hz : xs.length ≤ 100000 := by exact Nat.le_of_ble_eq_true rfl) : NewT xs H Q := ⟨Evl.sz_of hz, fun p hp => k p _ hp (Evl.Ex.new hp) upd_same⟩
theorem newL {xs : List V} {H : Hp} {Q : VK} (k : RetL xs H Q) (hz : xs.length ≤ 100000 := by exact Nat.le_of_ble_eq_true rfl) : NewL xs H Q := ⟨Evl.sz_of hz, fun p hp => k p _ hp (Evl.Ex.new hp) upd_same⟩
theorem if_tt {c : Bool} {A B : Prop} (hc : c = true) (h : A) : if c = true then A else B := by rw [if_pos hc]; exact h
theorem if_ff {c : Bool} {A B : Prop} (hc : c = false) (h : B) : if c = true then A else B := by rw [hc]; exact iteF h
theorem if_nt {A B : Prop} (h : B) : if (!true) = true then A else B := iteF h
theorem if_nf {A B : Prop} (h : A) : if (!false) = true then A else B := iteT h
theorem if_cs {c : Bool} {A B : Prop} (h1 : c = true → A) (h2 : c = false → B) : if c = true then A else B := by
  cases c with
  | true => exact iteT (h1 rfl)
  | false => exact iteF (h2 rfl)
theorem kb_ii : kitB "int" "int" = some true := by decide +kernel
theorem kb_bi : kitB "bool" "int" = some true := by decide +kernel
theorem kb_ib : kitB "int" "bool" = some false := by decide +kernel
theorem kb_bb : kitB "bool" "bool" = some true := by decide +kernel
theorem ty_int {K : PySem.W.Frag} {H : Hp} (i : Int) : TyX K H (.int i) (.type "int") := .base (.int i)
theorem ty_bl {K : PySem.W.Frag} {H : Hp} (b : Bool) : TyX K H (.bl b) (.type "bool") := .base (.bl b)
theorem ty_str {K : PySem.W.Frag} {H : Hp} (b : Str) : TyX K H (.str b) (.type "str") := .base (.str b)
theorem ty_non {K : PySem.W.Frag} {H : Hp} : TyX K H .non (.type "NoneType") := .base .non
theorem ty_tup {K : PySem.W.Frag} {H : Hp} {a : Addr} {xs : List V} (h : H a = some (.tup xs)) : TyX K H (.ref a) (.type "tuple") := .base (.tup h)
theorem ty_lst {K : PySem.W.Frag} {H : Hp} {a : Addr} {xs : List V} (h : H a = some (.lst xs)) : TyX K H (.ref a) (.type "list") := .base (.lst h)
/-- isinstance of a thing of a built-in type -/
theorem isi {K : PySem.W.Frag} {H : Hp} {Q : VK} {x : V} {a b : String} {r : Bool} (h : TyX K H x (.type a)) (e : kitB a b = some r) (q : Q (.bl r) H) : rIsi K [x, .ty b] H Q :=
  ⟨x, .ty b, .type a, .type b, r, rfl, .ty b, h, kit_ty e, q⟩
end L2

/-! ### readings, one step each (the goal's head tells which) -/
namespace L2
open PySem PySem.Spec PyProof.Rows
section
variable {K : PySem.W.Frag} {σ : St} {H : Hp} {Q : VK} {B : Bool → Hp → Prop} {ta tb tc te : TE} {t u : TT} {tA : TA} {D : Ends} {s1 s2 : TS} {g : TG} {gs : TGs} {v : V} {r : R2}
theorem c_var {i : Nat} (h : σ[i]? = some (some v)) (q : Q v H) : tVar i σ H Q := ⟨v, h, q⟩
theorem c_c (q : Q v H) : tC v σ H Q := q
theorem c_op (h : ta σ H fun x H1 => tb σ H1 fun y H2 => r x y H2 Q) : tOp r ta tb σ H Q := h
theorem c_un {f : V → Hp → VK → Prop} (h : ta σ H fun x H1 => f x H1 Q) : tUn f ta σ H Q := h
theorem c_test (h : te σ H fun x H1 => ∃ k, x = .bl k ∧ B k H1) : tTest te σ H B := h
theorem c_b (h : te σ H fun x H1 => ∃ k, x = .bl k ∧ B k H1) : tB te σ H B := h
theorem c_and (h : t σ H fun c H1 => if c = true then u σ H1 B else B false H1) : tAnd t u σ H B := h
theorem c_or (h : t σ H fun c H1 => if c = true then B true H1 else u σ H1 B) : tOr t u σ H B := h
theorem c_not (h : t σ H fun c H1 => B (!c) H1) : tNot t σ H B := h
theorem c_andV (h : ta σ H fun x H1 => ∃ c, x = .bl c ∧ if c = true then tb σ H1 Q else Q (.bl false) H1) : tAndV ta tb σ H Q := h
theorem c_orV (h : ta σ H fun x H1 => ∃ c, x = .bl c ∧ if c = true then Q (.bl true) H1 else tb σ H1 Q) : tOrV ta tb σ H Q := h
theorem c_notV (h : ta σ H fun x H1 => ∃ c, x = .bl c ∧ Q (.bl (!c)) H1) : tNotV ta σ H Q := h
theorem c_if (h : t σ H fun c H1 => if c = true then ta σ H1 Q else tb σ H1 Q) : tIf t ta tb σ H Q := h
theorem c_orT (h : ta σ H fun x H1 => ∃ k, TruV K x H1 k ∧ if k = true then Q x H1 else tb σ H1 Q) : tOrT K ta tb σ H Q := h
theorem c_andT (h : ta σ H fun x H1 => ∃ k, TruV K x H1 k ∧ if k = true then tb σ H1 Q else Q x H1) : tAndT K ta tb σ H Q := h
theorem c_notT (h : ta σ H fun x H1 => ∃ k, TruV K x H1 k ∧ Q (.bl (!k)) H1) : tNotT K ta σ H Q := h
theorem c_yes (h : B true H) : tYes σ H B := h
theorem c_nil {q : List V → Hp → Prop} (h : q [] H) : tNil σ H q := h
theorem c_cons {q : List V → Hp → Prop} (h : ta σ H fun x H1 => tA σ H1 fun xs H2 => q (x :: xs) H2) : tCons ta tA σ H q := h
theorem c_tup (h : tA σ H fun xs H1 => NewT xs H1 Q) : tTup tA σ H Q := h
theorem c_lst (h : tA σ H fun xs H1 => NewL xs H1 Q) : tLst tA σ H Q := h
theorem c_call {sp : Sp} {E : XK} (h : tA σ H fun vs H1 => sp vs H1 Q E) : tCall sp [] E tA σ H Q := by
  show tA σ H fun vs H1 => sp (vs ++ []) H1 Q E
  simp only [List.append_nil]
  exact h
theorem c_cb {f : List V → Hp → VK → Prop} (h : tA σ H fun vs H1 => f vs H1 Q) : tCB f tA σ H Q := h
theorem c_sl {f : V → Option Int → Option Int → Hp → VK → Prop} {tl th : TO} (h : te σ H fun x H1 => tl σ H1 fun l H2 => th σ H2 fun u H3 => f x l u H3 Q) : tSl f te tl th σ H Q := h
theorem c_noPart {q : Option Int → Hp → Prop} (h : q none H) : tNoPart σ H q := h
theorem c_part {q : Option Int → Hp → Prop} (h : te σ H fun x H1 => ∃ i, x = .int i ∧ q (some i) H1) : tPart te σ H q := h
theorem c_bm {T : String} {f : V → List V → Hp → VK → Prop} (h : te σ H fun x H1 => tyV K T x H1 ∧ tA σ H1 fun xs H2 => f x xs H2 Q) : tBM K T f te tA σ H Q := h
theorem c_bm0 {T : String} {f : V → List V → Hp → VK → Prop} (h : te σ H fun x H1 => tyV K T x H1 ∧ f x [] H1 Q) : tBM0 K T f te σ H Q := h
theorem c_m0 {f : V → List V → Hp → VK → Prop} (h : te σ H fun x H1 => (∃ a, x = .str a) ∧ f x [] H1 Q) : tM0 f te σ H Q := h
theorem c_m1 {f : V → List V → Hp → VK → Prop} (h : ta σ H fun x H1 => (∃ a, x = .str a) ∧ tb σ H1 fun y H2 => f x [y] H2 Q) : tM1 f ta tb σ H Q := h
theorem c_chain {r' : R2} (h : ta σ H fun x H1 => tb σ H1 fun y H2 => r x y H2 fun z H3 => ∃ k, z = .bl k ∧ (if k = true then tc σ H3 fun w' H4 => r' y w' H4 Q else Q (.bl false) H3)) : tChain r r' ta tb tc σ H Q := h
/-! statements -/
theorem c_next (h : D.nx σ H) : tNext D σ H := h
theorem c_seq (h : s1 { D with nx := s2 D } σ H) : tSeq s1 s2 D σ H := h
theorem c_asg (h : te σ H fun x H1 => g x σ H1 D.nx) : tAsg te g D σ H := h
theorem c_ret (h : te σ H D.rt) : tRet te D σ H := h
theorem c_retN (h : D.rt .non H) : tRetN D σ H := h
theorem c_ifS (h : t σ H fun b H1 => if b = true then s1 D σ H1 else s2 D σ H1) : tIfS t s1 s2 D σ H := h
theorem c_drop (h : te σ H fun _ H1 => D.nx σ H1) : tDrop te D σ H := h
theorem c_break (h : D.bk σ H) : tBreak D σ H := h
theorem c_cont (h : D.ct σ H) : tCont D σ H := h
theorem c_nx {nx : St → Hp → Prop} {rt : VK} {bk ct : St → Hp → Prop} (h : nx σ H) : Ends.nx ⟨nx, rt, bk, ct⟩ σ H := h
theorem c_rt {nx : St → Hp → Prop} {rt : VK} {bk ct : St → Hp → Prop} (h : rt v H) : Ends.rt ⟨nx, rt, bk, ct⟩ v H := h
theorem c_bk {nx : St → Hp → Prop} {rt : VK} {bk ct : St → Hp → Prop} (h : bk σ H) : Ends.bk ⟨nx, rt, bk, ct⟩ σ H := h
theorem c_ct {nx : St → Hp → Prop} {rt : VK} {bk ct : St → Hp → Prop} (h : ct σ H) : Ends.ct ⟨nx, rt, bk, ct⟩ σ H := h
theorem c_gName {i : Nat} {q : St → Hp → Prop} (h : q (σ.set i (some v)) H) : gName i v σ H q := h
theorem c_gTup {n : Nat} {a : Addr} {xs : List V} {q : St → Hp → Prop} (hs : SqT K H a xs) (hl : xs.length = n) (h : gs xs σ H q) : gTup K n gs (.ref a) σ H q := ⟨a, xs, rfl, hs, hl, h⟩
theorem c_gCons {vs : List V} {q : St → Hp → Prop} (h : g v σ H fun σ' H' => gs vs σ' H' q) : gCons g gs (v :: vs) σ H q := ⟨v, vs, rfl, h⟩
theorem c_gNil {q : St → Hp → Prop} (h : q σ H) : gNil [] σ H q := ⟨rfl, h⟩
theorem c_gSub {to ti : TE} {f : TSet} {q : St → Hp → Prop} (h : to σ H fun o H1 => ti σ H1 fun i H2 => f o i v H2 fun H3 => q σ H3) : gSub to ti f v σ H q := h
theorem c_cut {M : St → Hp → Prop} (h : s1 { D with nx := M } σ H) (k : ∀ σ' H', M σ' H' → s2 D σ' H') : Evl.tCut s1 s2 D σ H := ⟨M, h, k⟩
/-! operations on values -/
theorem c_I0 {f : Int → Int → V} {i j : Int} (q : Q (f i j) H) : rI0 f (.int i) (.int j) H Q := ⟨i, j, rfl, rfl, q⟩
theorem c_I {C : Int → Int → Prop} {f : Int → Int → V} {i j : Int} (hc : C i j) (q : Q (f i j) H) : rI C f (.int i) (.int j) H Q := ⟨i, j, rfl, rfl, hc, q⟩
theorem c_U {f : Int → V} {i : Int} (q : Q (f i) H) : rU f (.int i) H Q := ⟨i, rfl, q⟩
theorem c_eq {x y : V} (h : scal x y = true) (q : Q (.bl (decide (x = y))) H) : rEq x y H Q := ⟨h, q⟩
theorem c_ne {x y : V} (h : scal x y = true) (q : Q (.bl (!decide (x = y))) H) : rNe x y H Q := ⟨h, q⟩
theorem c_ixL {p : Addr} {xs : List V} {i : Int} (h : SqL K H p xs) (ha : atI xs i = some v) (q : Q v H) : rIxL K (.ref p) (.int i) H Q := ⟨p, xs, i, v, rfl, rfl, h, ha, q⟩
theorem c_ixT {p : Addr} {xs : List V} {i : Int} (h : SqT K H p xs) (ha : atI xs i = some v) (q : Q v H) : rIxT K (.ref p) (.int i) H Q := ⟨p, xs, i, v, rfl, rfl, h, ha, q⟩
theorem c_setL {p : Addr} {xs : List V} {k : Int} {j : Nat} {q : Hp → Prop} (h : H p = some (.lst xs)) (hj : ixN xs.length k = some j) (h2 : q (upd H p (.lst (xs.set j v)))) : rSetL (.ref p) (.int k) v H q := ⟨p, xs, k, j, rfl, rfl, h, hj, h2⟩
theorem c_in {x : V} {p : Addr} {xs : List V} (h : SqL K H p xs ∨ SqT K H p xs) (hx : flatV x = true) (ha : xs.all flatV = true) (q : Q (.bl (inV x xs)) H) : rIn K false x (.ref p) H Q := ⟨p, xs, rfl, h, hx, ha, q⟩
theorem c_notin {x : V} {p : Addr} {xs : List V} (h : SqL K H p xs ∨ SqT K H p xs) (hx : flatV x = true) (ha : xs.all flatV = true) (q : Q (.bl (!inV x xs)) H) : rIn K true x (.ref p) H Q := ⟨p, xs, rfl, h, hx, ha, q⟩
theorem c_cat {l b : Addr} {xs zs : List V} (h : H l = some (.lst xs)) (h' : H b = some (.lst zs)) (k : RetL (xs ++ zs) H Q) (hz : xs.length + zs.length ≤ 100000 := by exact Nat.le_of_ble_eq_true rfl) : rCat (.ref l) (.ref b) H Q :=
  ⟨l, b, xs, zs, rfl, rfl, h, h', Evl.sz_of hz, fun p hp => k p _ hp (Evl.Ex.new hp) upd_same⟩
end
end L2

/-! ### == of tuples and lists of flat things -/
namespace L2
open PySem PySem.Spec PyProof.Rows
def dOf : V → PyData
  | .non => .none
  | .bl b => .bool b
  | .int i => .int i
  | .str x => .str x
  | _ => .none
/-- flat, its signs within the line -/
def okV : V → Bool
  | .non => true
  | .bl _ => true
  | .int _ => true
  | .str x => PyData.strOk x
  | _ => false
theorem okV_flat {v : V} (h : okV v = true) : flatV v = true := by
  cases v <;> first | rfl | exact absurd h Bool.false_ne_true
theorem okL_flat {xs : List V} (h : xs.all okV = true) : xs.all flatV = true := by
  rw [List.all_eq_true] at h ⊢
  exact fun x hx => okV_flat (h x hx)
def eqL : List V → List V → Bool
  | [], [] => true
  | x :: xs, y :: ys => eqV x y && eqL xs ys
  | _, _ => false
theorem dp_flat {K : PySem.W.Frag} {H : Hp} {v : V} (h : flatV v = true) : Dp K H v (dOf v) := by
  cases v with
  | non => exact .non
  | bl b => exact .bl b
  | int i => exact .int i
  | str x => exact .str x
  | _ => exact absurd h Bool.false_ne_true
theorem dpAll_flat {K : PySem.W.Frag} {H : Hp} : ∀ {xs : List V}, xs.all flatV = true → DpAll K H xs (xs.map dOf)
  | [], _ => .nil
  | x :: xs, h => by
    rw [List.all_cons, Bool.and_eq_true] at h
    exact .cons (dp_flat h.1) (dpAll_flat h.2)
theorem eqv_flat {a b : V} (ha : flatV a = true) (hb : flatV b = true) : PyData.eqv (dOf a) (dOf b) = eqV a b := by
  cases a <;> first | exact absurd ha Bool.false_ne_true | (cases b <;> first | exact absurd hb Bool.false_ne_true | simp [dOf, PyData.eqv, eqV])
theorem eqvAll_flat : ∀ {xs ys : List V}, xs.all flatV = true → ys.all flatV = true → PyData.eqvAll (xs.map dOf) (ys.map dOf) = eqL xs ys
  | [], [], _, _ => by simp [PyData.eqvAll, eqL]
  | [], _ :: _, _, _ => by simp [PyData.eqvAll, eqL]
  | _ :: _, [], _, _ => by simp [PyData.eqvAll, eqL]
  | x :: xs, y :: ys, h, h' => by
    rw [List.all_cons, Bool.and_eq_true] at h h'
    rw [List.map_cons, List.map_cons, PyData.eqvAll, eqv_flat h.1 h'.1, eqvAll_flat h.2 h'.2] <;> rfl
theorem flat_lay {v : V} (ho : okV v = true) : (dOf v).canLay0 = true ∧ (dOf v).depth ≤ 1 := by
  cases v <;> first | exact absurd ho Bool.false_ne_true | (simp [okV] at ho; simp [dOf, PyData.canLay0, PyData.depth, ho]) | simp [dOf, PyData.canLay0, PyData.depth]
theorem flat_layAll : ∀ {xs : List V}, xs.all okV = true → PyData.canLayAll0 (xs.map dOf) = true ∧ PyData.depthAll (xs.map dOf) ≤ 1
  | [], _ => by simp [PyData.canLayAll0, PyData.depthAll]
  | x :: xs, ho => by
    rw [List.all_cons, Bool.and_eq_true] at ho
    have h := flat_lay (v := x) ho.1
    have h2 := flat_layAll (xs := xs) ho.2
    rw [List.map_cons, PyData.canLayAll0, PyData.depthAll, h.1, h2.1]
    refine ⟨rfl, ?_⟩
    have := h.2
    have := h2.2
    omega
theorem shaped_tup {xs : List V} (ho : xs.all okV = true) : SeqAt.shaped (.tuple (xs.map dOf)) = true := by
  have h := flat_layAll (xs := xs) ho
  have h2 := h.2
  unfold SeqAt.shaped
  rw [PyData.canLay0, PyData.depth, h.1, Bool.true_and, decide_eq_true_eq]
  omega
theorem shaped_lst {xs : List V} (ho : xs.all okV = true) : SeqAt.shaped (.list (xs.map dOf)) = true := by
  have h := flat_layAll (xs := xs) ho
  have h2 := h.2
  unfold SeqAt.shaped
  rw [PyData.canLay0, PyData.depth, h.1, Bool.true_and, decide_eq_true_eq]
  omega
section
variable {K : PySem.W.Frag} {H : Hp} {Q : VK} {p q : Addr} {xs ys : List V}
theorem c_eqT (h : SqT K H p xs) (h' : SqT K H q ys) (f : xs.all okV = true) (f' : ys.all okV = true) (k : Q (.bl (eqL xs ys)) H) : rEqD K (.ref p) (.ref q) H Q :=
  ⟨_, _, .tup h (dpAll_flat (okL_flat f)), .tup h' (dpAll_flat (okL_flat f')), shaped_tup f, shaped_tup f', by rw [PyData.eqv, eqvAll_flat (okL_flat f) (okL_flat f')]; exact k⟩
theorem c_neT (h : SqT K H p xs) (h' : SqT K H q ys) (f : xs.all okV = true) (f' : ys.all okV = true) (k : Q (.bl (!eqL xs ys)) H) : rNeD K (.ref p) (.ref q) H Q :=
  ⟨_, _, .tup h (dpAll_flat (okL_flat f)), .tup h' (dpAll_flat (okL_flat f')), shaped_tup f, shaped_tup f', by rw [PyData.eqv, eqvAll_flat (okL_flat f) (okL_flat f')]; exact k⟩
theorem c_eqLs (h : SqL K H p xs) (h' : SqL K H q ys) (f : xs.all okV = true) (f' : ys.all okV = true) (k : Q (.bl (eqL xs ys)) H) : rEqD K (.ref p) (.ref q) H Q :=
  ⟨_, _, .lst h (dpAll_flat (okL_flat f)), .lst h' (dpAll_flat (okL_flat f')), shaped_lst f, shaped_lst f', by rw [PyData.eqv, eqvAll_flat (okL_flat f) (okL_flat f')]; exact k⟩
theorem c_neLs (h : SqL K H p xs) (h' : SqL K H q ys) (f : xs.all okV = true) (f' : ys.all okV = true) (k : Q (.bl (!eqL xs ys)) H) : rNeD K (.ref p) (.ref q) H Q :=
  ⟨_, _, .lst h (dpAll_flat (okL_flat f)), .lst h' (dpAll_flat (okL_flat f')), shaped_lst f, shaped_lst f', by rw [PyData.eqv, eqvAll_flat (okL_flat f) (okL_flat f')]; exact k⟩
theorem eqV_refl {v : V} (h : flatV v = true) : eqV v v = true := by
  cases v <;> first | exact absurd h Bool.false_ne_true | simp [eqV]
theorem eqL_refl : ∀ {xs : List V}, xs.all flatV = true → eqL xs xs = true
  | [], _ => rfl
  | x :: xs, h => by
    rw [List.all_cons, Bool.and_eq_true] at h
    rw [eqL, eqV_refl h.1, eqL_refl h.2] <;> rfl
end
/-! ### the law's box -/
def BoxAt (H : Hp) (b : Addr) : Prop := ∃ x y z : Int, 0 ≤ x ∧ H b = some (.lst [.int x, .int y, .int z])
/-- all but b is kept -/
def ExB (b : Addr) (H H' : Hp) : Prop := ∀ a o, a ≠ b → H a = some o → H' a = some o
theorem ExB.refl (b : Addr) (H : Hp) : ExB b H H := fun _ _ _ h => h
theorem ExB.trans {b : Addr} {H H1 H2 : Hp} (e : ExB b H H1) (e2 : ExB b H1 H2) : ExB b H H2 := fun a o n h => e2 a o n (e a o n h)
theorem ExB.ex {b : Addr} {H H1 H2 : Hp} (e : ExB b H H1) (e2 : Evl.Ex H1 H2) : ExB b H H2 := fun a o n h => e2 a o (e a o n h)
theorem ExB.of {b : Addr} {H H1 : Hp} (e : Evl.Ex H H1) : ExB b H H1 := fun a o _ h => e a o h
theorem ExB.upd {b : Addr} {H : Hp} {o : HO} : ExB b H (upd H b o) := fun a u n h => by rw [upd_ne n]; exact h
theorem BoxAt.ex {H H' : Hp} {b : Addr} (h : BoxAt H b) (e : Evl.Ex H H') : BoxAt H' b := let ⟨x, y, z, p, q⟩ := h; ⟨x, y, z, p, e _ _ q⟩
/-- what did not stand before b was made is kept through ExB b -/
theorem ExB.tot {b : Addr} {H0 H H' : Hp} (e : Evl.Ex H0 H) (n : H0 b = none) (e2 : ExB b H H') : Evl.Ex H0 H' := fun a o h => e2 a o (ne_of_none h n) (e a o h)
theorem ExB.lst {K : PySem.W.Frag} {b a : Addr} {H H' : Hp} {xs : List V} (e : ExB b H H') (n : a ≠ b) (h : SqL K H a xs) : SqL K H' a xs := by
  rcases h with (h | ⟨o, h⟩) | h
  · exact .inl (.inl (e _ _ n h))
  · exact .inl (.inr ⟨o, e _ _ n h⟩)
  · exact .inr h
end L2
namespace L2
open PySem PySem.Spec PyProof.Rows
theorem shaped_flat {v : V} (h : okV v = true) : SeqAt.shaped (dOf v) = true := by
  have q := flat_lay h
  unfold SeqAt.shaped
  rw [q.1, Bool.true_and, decide_eq_true_eq]
  have := q.2
  omega
theorem c_eqF {K : PySem.W.Frag} {H : Hp} {Q : VK} {x y : V} (f : okV x = true) (f' : okV y = true) (k : Q (.bl (eqV x y)) H) : rEqD K x y H Q :=
  ⟨_, _, dp_flat (okV_flat f), dp_flat (okV_flat f'), shaped_flat f, shaped_flat f', by rw [eqv_flat (okV_flat f) (okV_flat f')]; exact k⟩
theorem c_neF {K : PySem.W.Frag} {H : Hp} {Q : VK} {x y : V} (f : okV x = true) (f' : okV y = true) (k : Q (.bl (!eqV x y)) H) : rNeD K x y H Q :=
  ⟨_, _, dp_flat (okV_flat f), dp_flat (okV_flat f'), shaped_flat f, shaped_flat f', by rw [eqv_flat (okV_flat f) (okV_flat f')]; exact k⟩
end L2

/-! ### list.count of flat things -/
namespace L2
open PySem PySem.Spec PyProof.Rows
theorem countP_eqU {x : V} : ∀ {xs : List V} {us : List Value}, Vals xs us → xs.all flatV = true → us.countP (eqU x) = xs.countP fun y => eqV y x
  | _, _, .nil, _ => rfl
  | y :: xs, u :: us, .cons r t, h => by
    rw [List.all_cons, Bool.and_eq_true] at h
    rw [List.countP_cons, List.countP_cons, countP_eqU t h.2, eqU_of r h.1]
def rCntF (K : PySem.W.Frag) : V → List V → Hp → VK → Prop := fun x xs H Q => ∃ (p : Addr) (ys : List V) (y : V), x = .ref p ∧ xs = [y] ∧ SqL K H p ys ∧ flatV y = true ∧ ys.all flatV = true ∧ Q (.int ((ys.countP fun z => eqV z y : Nat) : Int)) H
theorem mt_countF {X : Cx} : MtR X "list.count" (rCntF X.K) := by
  intro pins s σ H x xs v us Q I rx rxs h
  obtain ⟨p, ys, y, rfl, rfl, hs, fy, fl, q⟩ := h
  cases rx
  obtain ⟨u, rfl, ru⟩ := rxs.one
  obtain ⟨its, rv, ⟨⟨cls, dd, data, sl⟩, n, ho, hc, hdn, hd⟩, hlen⟩ := I.list hs
  simp only at hc hd
  subst hc hd
  have ec : its.toArray.toList.countP (eqU y) = ys.countP fun z => eqV z y := countP_eqU rv fl
  refine call_meets PySem.F.slot_list_count ⟨_, ho, rfl⟩ PySem.F.entry_list_count (PySem.F.args_list_count_2 _ _)
    (SeqAt.list_countAt p its.toArray n dd sl u (eqU y)) ⟨ho, fun z hz => mem_eqAt ru fy rv fl z (by simpa using hz), ?_⟩
  refine ⟨.int ((ys.countP fun z => eqV z y : Nat) : Int), H, I.tok _, ⟨s.toks, ?_⟩, q⟩
  rw [ec]
end L2

/-! ### a list comprehension whose element and test are told by the turn -/
namespace L2
open PySem PySem.Spec PyProof.Rows
theorem range_fm {f : Nat → Option V} {n : Nat} : (List.range (n + 1)).filterMap f = (List.range n).filterMap f ++ (f n).toList := by
  rw [List.range_succ, List.filterMap_append]
  cases h : f n <;> simp [List.filterMap_cons, h]
theorem fm_len {f : Nat → Option V} {n : Nat} : ((List.range n).filterMap f).length ≤ n := by
  have h := List.length_filterMap_le f (List.range n)
  rw [List.length_range] at h
  exact h
section
variable {K : PySem.W.Frag} {σ : St} {H : Hp} {Q : VK} {g : TG} {tt : TT} {te : TE} {vs : List Nat}
/-- one turn: the target, the test, the element come to f i, all that stood kept -/
def LcTurn (g : TG) (tt : TT) (te : TE) (vs : List Nat) (σ : St) (H : Hp) (x : V) (y : Option V) : Prop :=
  ∀ H2, Evl.Ex H H2 → ∀ R : Option V → Hp → Prop, (∀ H3, Evl.Ex H2 H3 → R y H3) →
    g x (wipe σ vs) H2 fun σ2 H3 => wipe σ2 vs = wipe σ vs ∧ tt σ2 H3 fun b H4 => if b = true then te σ2 H4 fun y H5 => R (some y) H5 else R none H4
theorem lc_of {n : Nat} {D : Addr} {H1 : Hp} {f : Nat → Option V} {i : Nat} {H' : Hp} (hn : n ≤ 50000) (hi : i < n) (p1 : H1 D = none) (p2 : Evl.Ex H1 H') (p3 : H' D = some (.lst ((List.range i).filterMap f))) {x : V} (ht : LcTurn g tt te vs σ H1 x (f i)) :
    g x (wipe σ vs) H' fun σ2 H2 => wipe σ2 vs = wipe σ vs ∧ tt σ2 H2 fun b H3 =>
      if b = true then te σ2 H3 fun y H4 => ∃ acc, H4 D = some (.lst acc) ∧ acc.length < sizeLine ∧ (H1 D = none ∧ Evl.Ex H1 (upd H4 D (.lst (acc ++ [y]))) ∧ upd H4 D (.lst (acc ++ [y])) D = some (.lst ((List.range (i + 1)).filterMap f))) else (H1 D = none ∧ Evl.Ex H1 H3 ∧ H3 D = some (.lst ((List.range (i + 1)).filterMap f))) := by
  refine ht H' p2 (fun o H4 => match o with
    | some y => ∃ acc, H4 D = some (.lst acc) ∧ acc.length < sizeLine ∧ (H1 D = none ∧ Evl.Ex H1 (upd H4 D (.lst (acc ++ [y]))) ∧ upd H4 D (.lst (acc ++ [y])) D = some (.lst ((List.range (i + 1)).filterMap f)))
    | none => (H1 D = none ∧ Evl.Ex H1 H4 ∧ H4 D = some (.lst ((List.range (i + 1)).filterMap f)))) (fun H3 e3 => ?_)
  cases hf : f i with
  | some y =>
    refine ⟨_, e3 _ _ p3, ?_, p1, Evl.Ex.mut (p2.trans e3) p1, ?_⟩
    · have := fm_len (f := f) (n := i)
      exact Evl.sz_lt (by omega)
    · rw [upd_same, range_fm, hf] <;> rfl
  | none =>
    refine ⟨p1, p2.trans e3, ?_⟩
    rw [range_fm, hf]
    show H3 D = some (.lst (_ ++ []))
    rw [List.append_nil]
    exact e3 _ _ p3
end
end L2

/-! ### loops -/
namespace L2
open PySem PySem.Spec PyProof.Rows
/-- a loop over what is walked already -/
def ForI (J : It) (g : TG) (tb : TS) (D : Ends) (σ : St) (H : Hp) : Prop := tFor (fun _ H1 R => R J H1) g tb D σ H
section
variable {K : PySem.W.Frag} {σ : St} {H : Hp} {D : Ends} {g : TG} {tb : TS} {ta : TA} {tl : TE}
theorem c_forR1 (h : ta σ H fun vs H1 => ∃ j : Int, vs = [.int j] ∧ -(2 ^ 62) ≤ j ∧ j < 2 ^ 62 ∧ ForI (Itr 0 j.toNat) g tb D σ H1) : tFor (iRng1 ta) g tb D σ H := h
theorem c_forR2 (h : ta σ H fun vs H1 => ∃ i j : Int, vs = [.int i, .int j] ∧ (-(2 ^ 62) ≤ i ∧ i < 2 ^ 62 ∧ -(2 ^ 62) ≤ j ∧ j < 2 ^ 62) ∧ ForI (Itr i (j - i).toNat) g tb D σ H1) : tFor (iRng2 ta) g tb D σ H := h
theorem c_forL (h : tl σ H fun x H1 => ∃ a, x = .ref a ∧ (∃ xs, SqL K H1 a xs) ∧ ForI (Itl K a) g tb D σ H1) : tFor (iList K tl) g tb D σ H := h
theorem c_forT (h : tl σ H fun x H1 => ∃ a, x = .ref a ∧ (∃ xs, SqT K H1 a xs) ∧ ForI (Itt K a) g tb D σ H1) : tFor (iTup K tl) g tb D σ H := h
/-- range(n), n whole and not below 0 or below it -/
theorem forR {n : Nat} {j : Nat} (Pv : Nat → St → Hp → Prop) (h0 : Pv 0 σ H) (hs : ∀ (i : Nat) σ' H', i < n → Pv i σ' H' → tb { D with nx := Pv (i + 1), ct := Pv (i + 1), bk := D.nx } (σ'.set j (some (.int (i : Int)))) H') (hd : ∀ σ' H', Pv n σ' H' → D.nx σ' H') : ForI (Itr 0 n) (gName j) tb D σ H :=
  for_range (lo := 0) (n := n) Pv h0 (fun i σ' H' hi p => by
    have e0 : (0 : Int) + (i : Int) = (i : Int) := Int.zero_add _
    show tb { D with nx := Pv (i + 1), ct := Pv (i + 1), bk := D.nx } (σ'.set j (some (.int ((0 : Int) + (i : Int))))) H'
    rw [e0]
    exact hs i σ' H' hi p) hd
theorem forL {a : Addr} {xs : List V} {j : Nat} (Pv : Nat → St → Hp → Prop) (h0 : Pv 0 σ H) (hl : ∀ i σ' H', i ≤ xs.length → Pv i σ' H' → SqL K H' a xs)
    (hs : ∀ i x σ' H', xs[i]? = some x → Pv i σ' H' → tb { D with nx := Pv (i + 1), ct := Pv (i + 1), bk := D.nx } (σ'.set j (some x)) H') (hd : ∀ σ' H', Pv xs.length σ' H' → D.nx σ' H') : ForI (Itl K a) (gName j) tb D σ H := for_list Pv h0 hl hs hd
theorem forT {a : Addr} {xs : List V} {j : Nat} (Pv : Nat → St → Hp → Prop) (h0 : Pv 0 σ H) (hl : ∀ i σ' H', i ≤ xs.length → Pv i σ' H' → SqT K H' a xs)
    (hs : ∀ i x σ' H', xs[i]? = some x → Pv i σ' H' → tb { D with nx := Pv (i + 1), ct := Pv (i + 1), bk := D.nx } (σ'.set j (some x)) H') (hd : ∀ σ' H', Pv xs.length σ' H' → D.nx σ' H') : ForI (Itt K a) (gName j) tb D σ H := for_tup Pv h0 hl hs hd
end
/-- a comprehension over what is walked already -/
def LcI (J : It) (g : TG) (tt : TT) (te : TE) (vs : List Nat) (σ : St) (H : Hp) (Q : VK) : Prop := tLc (fun _ H1 R => R J H1) g tt te vs σ H Q
section
variable {K : PySem.W.Frag} {σ : St} {H : Hp} {Q : VK} {g : TG} {tt : TT} {te : TE} {vs : List Nat} {ta : TA} {tl : TE}
theorem c_lcR1 (h : ta σ H fun ws H1 => ∃ j : Int, ws = [.int j] ∧ -(2 ^ 62) ≤ j ∧ j < 2 ^ 62 ∧ LcI (Itr 0 j.toNat) g tt te vs σ H1 Q) : tLc (iRng1 ta) g tt te vs σ H Q := h
theorem c_lcLi (h : tl σ H fun x H1 => ∃ a, x = .ref a ∧ (∃ xs, SqL K H1 a xs) ∧ LcI (Itl K a) g tt te vs σ H1 Q) : tLc (iList K tl) g tt te vs σ H Q := h
theorem c_lcTi (h : tl σ H fun x H1 => ∃ a, x = .ref a ∧ (∃ xs, SqT K H1 a xs) ∧ LcI (Itt K a) g tt te vs σ H1 Q) : tLc (iTup K tl) g tt te vs σ H Q := h
theorem lcL {a : Addr} {xs : List V} (f : Nat → Option V) (hs : SqL K H a xs) (hl : xs.length ≤ 50000) (ht : ∀ (i : Nat) (x : V), xs[i]? = some x → LcTurn g tt te vs σ H x (f i)) (k : RetL ((List.range xs.length).filterMap f) H Q) : LcI (Itl K a) g tt te vs σ H Q := by
  refine fun D hD => ?_
  refine lc_list (xs := xs) (fun i H' => H D = none ∧ Evl.Ex H H' ∧ H' D = some (.lst ((List.range i).filterMap f))) ⟨hD, Evl.Ex.new hD, upd_same⟩ (fun i H' _ p => Evl.ex_l p.2.1 hs) (fun i x H' hi p => ?_) (fun H' p => k D H' p.1 p.2.1 p.2.2)
  exact lc_of hl (List.getElem?_eq_some_iff.mp hi).1 p.1 p.2.1 p.2.2 (ht i x hi)
theorem lcT {a : Addr} {xs : List V} (f : Nat → Option V) (hs : SqT K H a xs) (hl : xs.length ≤ 50000) (ht : ∀ (i : Nat) (x : V), xs[i]? = some x → LcTurn g tt te vs σ H x (f i)) (k : RetL ((List.range xs.length).filterMap f) H Q) : LcI (Itt K a) g tt te vs σ H Q := by
  refine fun D hD => ?_
  refine lc_tup (xs := xs) (fun i H' => H D = none ∧ Evl.Ex H H' ∧ H' D = some (.lst ((List.range i).filterMap f))) ⟨hD, Evl.Ex.new hD, upd_same⟩ (fun i H' _ p => Evl.ex_t p.2.1 hs) (fun i x H' hi p => ?_) (fun H' p => k D H' p.1 p.2.1 p.2.2)
  exact lc_of hl (List.getElem?_eq_some_iff.mp hi).1 p.1 p.2.1 p.2.2 (ht i x hi)
theorem lcR {n : Nat} (f : Nat → Option V) (hl : n ≤ 50000) (ht : ∀ (i : Nat), i < n → LcTurn g tt te vs σ H (.int (i : Int)) (f i)) (k : RetL ((List.range n).filterMap f) H Q) : LcI (Itr 0 n) g tt te vs σ H Q := by
  refine fun D hD => ?_
  refine lc_range (lo := 0) (n := n) (fun i H' => H D = none ∧ Evl.Ex H H' ∧ H' D = some (.lst ((List.range i).filterMap f))) ⟨hD, Evl.Ex.new hD, upd_same⟩ (fun i H' hi p => ?_) (fun H' p => k D H' p.1 p.2.1 p.2.2)
  have e0 : (0 : Int) + (i : Int) = (i : Int) := Int.zero_add _
  rw [e0]
  exact lc_of hl hi p.1 p.2.1 p.2.2 (ht i hi)
end
end L2

open L2 in
local macro_rules | `(tactic| walk_at "s") => `(tactic| with_reducible (first
  | refine c_var (by with_unfolding_all rfl) ?_ | refine c_c ?_ | refine c_op ?_ | refine c_test ?_ | refine c_cons ?_ | refine c_nil ?_ | refine c_call ?_ | refine c_cb ?_ | refine c_seq ?_ | refine c_asg ?_ | refine c_gName ?_ | refine c_ret ?_ | refine c_ifS ?_
  | refine c_nx ?_ | refine c_rt ?_ | refine c_bk ?_ | refine c_ct ?_ | refine c_next ?_ | refine c_drop ?_ | refine c_un ?_ | refine c_b ?_ | refine c_and ?_ | refine c_or ?_ | refine c_not ?_ | refine c_andV ?_ | refine c_orV ?_ | refine c_notV ?_ | refine c_if ?_
  | refine c_tup ?_ | refine c_lst ?_ | refine c_sl ?_ | refine c_noPart ?_ | refine c_part ?_ | refine c_bm ?_ | refine c_bm0 ?_ | refine c_m0 ?_ | refine c_m1 ?_ | refine c_chain ?_ | refine c_retN ?_ | refine c_gCons ?_ | refine c_gNil ?_ | refine c_gSub ?_
  | refine c_I0 ?_ | refine c_U ?_ | refine c_eq (by with_unfolding_all rfl) ?_ | refine c_ne (by with_unfolding_all rfl) ?_ | refine c_yes ?_ | refine c_forR1 ?_ | refine c_forR2 ?_ | refine c_forL ?_ | refine c_forT ?_ | refine c_lcR1 ?_ | refine c_lcLi ?_ | refine c_lcTi ?_ | refine c_break ?_ | refine c_cont ?_ | refine c_orT ?_ | refine c_andT ?_ | refine c_notT ?_ | refine iteT ?_ | refine iteF ?_ | refine if_nt ?_ | refine if_nf ?_
  | refine ⟨_, rfl, ?_⟩ | refine ⟨_, _, rfl, rfl, ?_⟩ | refine And.intro rfl ?_))
local macro_rules | `(tactic| walk_at "ss") => `(tactic| repeat (walk_at "s"))

namespace Toy
open PySem L2
open Evl hiding RetV RetL
def top (i : Nat) : Stmt := PySem.Challenge.pw_beatrows_k13_reckoned_by_operators.main.body.getD i (.Pass ⟨0, 0, 0, 0⟩)
abbrev s_is_whole : Stmt := top 2
abbrev s_is_within : Stmt := top 3
abbrev s_is_value : Stmt := top 4
abbrev s_ops_told : Stmt := top 7
abbrev s_fits : Stmt := top 8
abbrev s_number_by : Stmt := top 9
abbrev s_truth_by : Stmt := top 10
abbrev s_reckoned : Stmt := top 11
abbrev s_cell_at_l : Stmt := top 13
abbrev s_box_l : Stmt := top 14
abbrev s_take_l : Stmt := top 15
abbrev s_value_l : Stmt := top 16
abbrev s_is_number_l : Stmt := top 17
abbrev s_kind_l : Stmt := top 18
abbrev s_sum_l : Stmt := top 19
abbrev s_truth_l : Stmt := top 20
abbrev s_right_l : Stmt := top 21
abbrev s_law : Stmt := top 22
/-- where the defs stand -/
structure Adr where
  f_is_whole : Addr
  fd_is_whole : FuncData
  f_is_within : Addr
  fd_is_within : FuncData
  f_is_value : Addr
  fd_is_value : FuncData
  f_ops_told : Addr
  fd_ops_told : FuncData
  f_fits : Addr
  fd_fits : FuncData
  f_number_by : Addr
  fd_number_by : FuncData
  f_truth_by : Addr
  fd_truth_by : FuncData
  f_reckoned : Addr
  fd_reckoned : FuncData
  f_cell_at_l : Addr
  fd_cell_at_l : FuncData
  f_box_l : Addr
  fd_box_l : FuncData
  f_take_l : Addr
  fd_take_l : FuncData
  f_value_l : Addr
  fd_value_l : FuncData
  f_is_number_l : Addr
  fd_is_number_l : FuncData
  f_kind_l : Addr
  fd_kind_l : FuncData
  f_sum_l : Addr
  fd_sum_l : FuncData
  f_truth_l : Addr
  fd_truth_l : FuncData
  f_right_l : Addr
  fd_right_l : FuncData
  f_law : Addr
  fd_law : FuncData
  a_OPS : Addr
structure Txt (K : PySem.W.Frag) (mg : Str → Option Value) (Z : Adr) : Prop where
  F_is_whole : Fun K "is_whole" "is_whole" s_is_whole Z.f_is_whole Z.fd_is_whole
  b_is_whole : Binds K Z.fd_is_whole ["thing"] []
  g_is_whole : mg "is_whole" = some (.ref Z.f_is_whole)
  F_is_within : Fun K "is_within" "is_within" s_is_within Z.f_is_within Z.fd_is_within
  b_is_within : Binds K Z.fd_is_within ["thing", "low", "high"] []
  g_is_within : mg "is_within" = some (.ref Z.f_is_within)
  F_is_value : Fun K "is_value" "is_value" s_is_value Z.f_is_value Z.fd_is_value
  b_is_value : Binds K Z.fd_is_value ["thing"] []
  g_is_value : mg "is_value" = some (.ref Z.f_is_value)
  F_ops_told : Fun K "ops_told" "ops_told" s_ops_told Z.f_ops_told Z.fd_ops_told
  b_ops_told : Binds K Z.fd_ops_told [] []
  g_ops_told : mg "ops_told" = some (.ref Z.f_ops_told)
  F_fits : Fun K "fits" "fits" s_fits Z.f_fits Z.fd_fits
  b_fits : Binds K Z.fd_fits ["op", "one", "other"] []
  g_fits : mg "fits" = some (.ref Z.f_fits)
  F_number_by : Fun K "number_by" "number_by" s_number_by Z.f_number_by Z.fd_number_by
  b_number_by : Binds K Z.fd_number_by ["op", "one", "other"] []
  g_number_by : mg "number_by" = some (.ref Z.f_number_by)
  F_truth_by : Fun K "truth_by" "truth_by" s_truth_by Z.f_truth_by Z.fd_truth_by
  b_truth_by : Binds K Z.fd_truth_by ["op", "one", "other"] []
  g_truth_by : mg "truth_by" = some (.ref Z.f_truth_by)
  F_reckoned : Fun K "reckoned" "reckoned" s_reckoned Z.f_reckoned Z.fd_reckoned
  b_reckoned : Binds K Z.fd_reckoned ["op", "one", "other"] []
  g_reckoned : mg "reckoned" = some (.ref Z.f_reckoned)
  F_cell_at_l : Fun K "_law_cell_at" "_law_cell_at" s_cell_at_l Z.f_cell_at_l Z.fd_cell_at_l
  b_cell_at_l : Binds K Z.fd_cell_at_l ["_law_script", "_law_k"] []
  g_cell_at_l : mg "_law_cell_at" = some (.ref Z.f_cell_at_l)
  F_box_l : Fun K "_law_box" "_law_box" s_box_l Z.f_box_l Z.fd_box_l
  b_box_l : Binds K Z.fd_box_l ["_law_cell"] []
  g_box_l : mg "_law_box" = some (.ref Z.f_box_l)
  F_take_l : Fun K "_law_take" "_law_take" s_take_l Z.f_take_l Z.fd_take_l
  b_take_l : Binds K Z.fd_take_l ["_law_box_here", "_law_many"] []
  g_take_l : mg "_law_take" = some (.ref Z.f_take_l)
  F_value_l : Fun K "_law_value" "_law_value" s_value_l Z.f_value_l Z.fd_value_l
  b_value_l : Binds K Z.fd_value_l ["_law_box_here"] []
  g_value_l : mg "_law_value" = some (.ref Z.f_value_l)
  F_is_number_l : Fun K "_law_is_number" "_law_is_number" s_is_number_l Z.f_is_number_l Z.fd_is_number_l
  b_is_number_l : Binds K Z.fd_is_number_l ["_law_thing"] []
  g_is_number_l : mg "_law_is_number" = some (.ref Z.f_is_number_l)
  F_kind_l : Fun K "_law_kind" "_law_kind" s_kind_l Z.f_kind_l Z.fd_kind_l
  b_kind_l : Binds K Z.fd_kind_l ["_law_op", "_law_one", "_law_other"] []
  g_kind_l : mg "_law_kind" = some (.ref Z.f_kind_l)
  F_sum_l : Fun K "_law_sum" "_law_sum" s_sum_l Z.f_sum_l Z.fd_sum_l
  b_sum_l : Binds K Z.fd_sum_l ["_law_op", "_law_one", "_law_other"] []
  g_sum_l : mg "_law_sum" = some (.ref Z.f_sum_l)
  F_truth_l : Fun K "_law_truth" "_law_truth" s_truth_l Z.f_truth_l Z.fd_truth_l
  b_truth_l : Binds K Z.fd_truth_l ["_law_op", "_law_one", "_law_other"] []
  g_truth_l : mg "_law_truth" = some (.ref Z.f_truth_l)
  F_right_l : Fun K "_law_right" "_law_right" s_right_l Z.f_right_l Z.fd_right_l
  b_right_l : Binds K Z.fd_right_l ["_law_op", "_law_one", "_law_other", "_law_found"] []
  g_right_l : mg "_law_right" = some (.ref Z.f_right_l)
  F_law : Fun K "law" "law" s_law Z.f_law Z.fd_law
  b_law : Binds K Z.fd_law ["_law_script"] []
  g_law : mg "law" = some (.ref Z.f_law)
  n_abs : mg "abs" = none
  n_bool : mg "bool" = none
  n_divmod : mg "divmod" = none
  n_int : mg "int" = none
  n_isinstance : mg "isinstance" = none
  n_len : mg "len" = none
  n_list : mg "list" = none
  n_max : mg "max" = none
  n_min : mg "min" = none
  n_range : mg "range" = none
  n_tuple : mg "tuple" = none
  c_MOST : ∃ u, mg "MOST" = some u ∧ RelV (.int 1000000000) u
  c_OPS : ∃ u, mg "OPS" = some u ∧ RelV (.ref Z.a_OPS) u
  t_OPS : ∀ H, SqT K H Z.a_OPS [.str "+", .str "-", .str "*", .str "/", .str "mod", .str "<", .str "=", .str "&", .str "|"]
abbrev N_is_whole : List Str := ["thing"]
theorem sc_is_whole : FnScope N_is_whole ["thing"] (defScope s_is_whole) := ⟨rfl, rfl, rfl, by decide +kernel, rfl, by decide +kernel, by decide +kernel⟩
abbrev N_is_within : List Str := ["thing", "low", "high"]
theorem sc_is_within : FnScope N_is_within ["thing", "low", "high"] (defScope s_is_within) := ⟨rfl, rfl, rfl, by decide +kernel, rfl, by decide +kernel, by decide +kernel⟩
abbrev N_is_value : List Str := ["thing"]
theorem sc_is_value : FnScope N_is_value ["thing"] (defScope s_is_value) := ⟨rfl, rfl, rfl, by decide +kernel, rfl, by decide +kernel, by decide +kernel⟩
abbrev N_ops_told : List Str := []
theorem sc_ops_told : FnScope N_ops_told [] (defScope s_ops_told) := ⟨rfl, rfl, rfl, by decide +kernel, rfl, by decide +kernel, by decide +kernel⟩
abbrev N_fits : List Str := ["op", "one", "other"]
theorem sc_fits : FnScope N_fits ["op", "one", "other"] (defScope s_fits) := ⟨rfl, rfl, rfl, by decide +kernel, rfl, by decide +kernel, by decide +kernel⟩
abbrev N_number_by : List Str := ["op", "one", "other", "quotient", "rest"]
theorem sc_number_by : FnScope N_number_by ["op", "one", "other"] (defScope s_number_by) := ⟨rfl, rfl, rfl, by decide +kernel, rfl, by decide +kernel, by decide +kernel⟩
abbrev N_truth_by : List Str := ["op", "one", "other"]
theorem sc_truth_by : FnScope N_truth_by ["op", "one", "other"] (defScope s_truth_by) := ⟨rfl, rfl, rfl, by decide +kernel, rfl, by decide +kernel, by decide +kernel⟩
abbrev N_reckoned : List Str := ["op", "one", "other", "number"]
theorem sc_reckoned : FnScope N_reckoned ["op", "one", "other"] (defScope s_reckoned) := ⟨rfl, rfl, rfl, by decide +kernel, rfl, by decide +kernel, by decide +kernel⟩
abbrev N_cell_at_l : List Str := ["_law_script", "_law_k"]
theorem sc_cell_at_l : FnScope N_cell_at_l ["_law_script", "_law_k"] (defScope s_cell_at_l) := ⟨rfl, rfl, rfl, by decide +kernel, rfl, by decide +kernel, by decide +kernel⟩
abbrev N_box_l : List Str := ["_law_cell"]
theorem sc_box_l : FnScope N_box_l ["_law_cell"] (defScope s_box_l) := ⟨rfl, rfl, rfl, by decide +kernel, rfl, by decide +kernel, by decide +kernel⟩
abbrev N_take_l : List Str := ["_law_box_here", "_law_many", "_law_digit", "_law_number", "_law_high", "_law_low"]
theorem sc_take_l : FnScope N_take_l ["_law_box_here", "_law_many"] (defScope s_take_l) := ⟨rfl, rfl, rfl, by decide +kernel, rfl, by decide +kernel, by decide +kernel⟩
abbrev N_value_l : List Str := ["_law_box_here", "_law_most", "_law_near", "_law_number"]
theorem sc_value_l : FnScope N_value_l ["_law_box_here"] (defScope s_value_l) := ⟨rfl, rfl, rfl, by decide +kernel, rfl, by decide +kernel, by decide +kernel⟩
abbrev N_is_number_l : List Str := ["_law_thing"]
theorem sc_is_number_l : FnScope N_is_number_l ["_law_thing"] (defScope s_is_number_l) := ⟨rfl, rfl, rfl, by decide +kernel, rfl, by decide +kernel, by decide +kernel⟩
abbrev N_kind_l : List Str := ["_law_op", "_law_one", "_law_other"]
theorem sc_kind_l : FnScope N_kind_l ["_law_op", "_law_one", "_law_other"] (defScope s_kind_l) := ⟨rfl, rfl, rfl, by decide +kernel, rfl, by decide +kernel, by decide +kernel⟩
abbrev N_sum_l : List Str := ["_law_op", "_law_one", "_law_other", "_law_rest", "_law_quotient"]
theorem sc_sum_l : FnScope N_sum_l ["_law_op", "_law_one", "_law_other"] (defScope s_sum_l) := ⟨rfl, rfl, rfl, by decide +kernel, rfl, by decide +kernel, by decide +kernel⟩
abbrev N_truth_l : List Str := ["_law_op", "_law_one", "_law_other"]
theorem sc_truth_l : FnScope N_truth_l ["_law_op", "_law_one", "_law_other"] (defScope s_truth_l) := ⟨rfl, rfl, rfl, by decide +kernel, rfl, by decide +kernel, by decide +kernel⟩
abbrev N_right_l : List Str := ["_law_op", "_law_one", "_law_other", "_law_found", "_law_due"]
theorem sc_right_l : FnScope N_right_l ["_law_op", "_law_one", "_law_other", "_law_found"] (defScope s_right_l) := ⟨rfl, rfl, rfl, by decide +kernel, rfl, by decide +kernel, by decide +kernel⟩
abbrev N_law : List Str := ["_law_script", "_law_ops", "_law_k", "_law_box_here", "_law_one", "_law_other", "_law_first", "_law_op", "_law_pair"]
theorem sc_law : FnScope N_law ["_law_script"] (defScope s_law) := ⟨rfl, rfl, rfl, by decide +kernel, rfl, by decide +kernel, by decide +kernel⟩
section
variable {P : Program} {w : World} {K : PySem.W.Frag} {mg : Str → Option Value} {base : Heap} {Z : Adr}
/-! ### words: whole numbers, values -/
def sp_is_whole (K : PySem.W.Frag) : Sp := fun vs H Q _ => ∃ (v : V) (n : String) (b1 b2 : Bool), vs = [v] ∧ TyX K H v (.type n) ∧ kitB n "int" = some b1 ∧ kitB n "bool" = some b2 ∧ Q (.bl (b1 && !b2)) H
theorem u_whole_int {K : PySem.W.Frag} {H : Hp} {Q : VK} {E : XK} {i : Int} (q : Q (.bl true) H) : sp_is_whole K [.int i] H Q E := ⟨_, _, _, _, rfl, ty_int i, kb_ii, kb_ib, q⟩
theorem u_whole_bl {K : PySem.W.Frag} {H : Hp} {Q : VK} {E : XK} {i : Bool} (q : Q (.bl false) H) : sp_is_whole K [.bl i] H Q E := ⟨_, _, _, _, rfl, ty_bl i, kb_bi, kb_bb, q⟩
def sp_is_within (K : PySem.W.Frag) : Sp := fun vs H Q _ => ∃ (v : V) (lo hi : Int), vs = [v, .int lo, .int hi] ∧
  ((∃ i, v = .int i ∧ Q (.bl (decide (lo ≤ i) && decide (i ≤ hi))) H) ∨ ∃ (n : String) (b1 b2 : Bool), TyX K H v (.type n) ∧ kitB n "int" = some b1 ∧ kitB n "bool" = some b2 ∧ (b1 && !b2) = false ∧ Q (.bl false) H)
def sp_is_value (K : PySem.W.Frag) : Sp := fun vs H Q _ => ∃ (v : V), vs = [v] ∧
  ((∃ i, v = .int i ∧ Q (.bl (decide (-1000000000 ≤ i) && decide (i ≤ 1000000000))) H) ∨ (∃ b, v = .bl b ∧ Q (.bl true) H) ∨ ∃ (n : String), TyX K H v (.type n) ∧ kitB n "int" = some false ∧ kitB n "bool" = some false ∧ Q (.bl false) H)
theorem ok_is_whole (T : Txt K mg Z) : FnOk P w K mg base CX0 1 Z.f_is_whole Z.fd_is_whole ["thing"] (sp_is_whole K) := by
  refine T.F_is_whole.ok sc_is_whole (fun vs H Q E h => ?_) (fun cdv AA outer s H vs Q E hr h => ?_)
  · obtain ⟨v, n, b1, b2, rfl, _⟩ := h
    rfl
  · obtain ⟨v, n, b1, b2, rfl, ty, h1, h2, k⟩ := h
    refine ⟨_, (pss_one (ps_ret (pe_and (pe_callB call_isi (by rfl) T.n_isinstance (by decide +kernel) (pa_cons (pv 0) (pa_cons (pe_bltn (v := .ty "int") (by rfl) T.n_int (by decide +kernel) rfl) pa_nil))) (pe_one (pe_not (pe_callB call_isi (by rfl) T.n_isinstance (by decide +kernel) (pa_cons (pv 0) (pa_cons (pe_bltn (v := .ty "bool") (by rfl) T.n_bool (by decide +kernel) rfl) pa_nil)))))))), ?_⟩
    walk_at "ss"
    refine isi ty h1 ?_
    walk_at "ss"
    refine if_cs (fun hb => ?_) (fun hb => ?_)
    · walk_at "ss"
      refine isi ty h2 ?_
      walk_at "ss"
      subst hb
      exact k
    · walk_at "ss"
      subst hb
      exact k
theorem ok_is_within (T : Txt K mg Z) : FnOk P w K mg base CX0 2 Z.f_is_within Z.fd_is_within ["thing", "low", "high"] (sp_is_within K) := by
  have G_is_whole := ok_is_whole (P := P) (w := w) (base := base) T
  refine T.F_is_within.ok sc_is_within (fun vs H Q E h => ?_) (fun cdv AA outer s H vs Q E hr h => ?_)
  · obtain ⟨v, lo, hi, rfl, _⟩ := h
    rfl
  · obtain ⟨v, lo, hi, rfl, k⟩ := h
    refine ⟨_, (pss_one (ps_ret (pe_and (pe_call G_is_whole (hr.mono (by decide)) rfl T.g_is_whole T.F_is_whole.kp T.b_is_whole .nil pass0 (pa_cons (pv 0) pa_nil)) (pe_one (pe_chain op_le op_le (pv 1) (pv 0) (pv 2)))))), ?_⟩
    rcases k with ⟨i, rfl, k⟩ | ⟨n, b1, b2, ty, h1, h2, hb, k⟩
    · walk_at "ss"
      refine u_whole_int ?_
      walk_at "ss"
      refine if_cs (fun hb => ?_) (fun hb => ?_)
      · walk_at "ss"
        rw [hb] at k
        exact k
      · walk_at "ss"
        rw [hb] at k
        exact k
    · walk_at "ss"
      refine ⟨_, _, _, _, rfl, ty, h1, h2, ?_⟩
      walk_at "ss"
      exact if_ff hb k
theorem ok_is_value (T : Txt K mg Z) : FnOk P w K mg base CX0 3 Z.f_is_value Z.fd_is_value ["thing"] (sp_is_value K) := by
  have G_is_within := ok_is_within (P := P) (w := w) (base := base) T
  refine T.F_is_value.ok sc_is_value (fun vs H Q E h => ?_) (fun cdv AA outer s H vs Q E hr h => ?_)
  · obtain ⟨v, rfl, _⟩ := h
    rfl
  · obtain ⟨v, rfl, k⟩ := h
    refine ⟨_, (pss_one (ps_ret (pe_or (pe_callB call_isi (by rfl) T.n_isinstance (by decide +kernel) (pa_cons (pv 0) (pa_cons (pe_bltn (v := .ty "bool") (by rfl) T.n_bool (by decide +kernel) rfl) pa_nil))) (pe_one (pe_call G_is_within (hr.mono (by decide)) rfl T.g_is_within T.F_is_within.kp T.b_is_within .nil pass0 (pa_cons (pv 0) (pa_cons (pe_un un_neg (pe_gcst rfl T.c_MOST)) (pa_cons (pe_gcst rfl T.c_MOST) pa_nil)))))))), ?_⟩
    rcases k with ⟨i, rfl, k⟩ | ⟨b, rfl, k⟩ | ⟨n, ty, h1, h2, k⟩
    · walk_at "ss"
      refine isi (ty_int i) kb_ib ?_
      walk_at "ss"
      refine ⟨_, _, _, rfl, .inl ⟨_, rfl, ?_⟩⟩
      exact k
    · walk_at "ss"
      refine isi (ty_bl b) kb_bb ?_
      walk_at "ss"
      exact k
    · walk_at "ss"
      refine isi ty h2 ?_
      walk_at "ss"
      refine ⟨_, _, _, rfl, .inr ⟨_, _, _, ty, h1, h2, rfl, ?_⟩⟩
      exact k

/-! ### sums -/
def isI : V → Bool
  | .int _ => true
  | _ => false
def NB : V → Prop
  | .int i => -1000000000 ≤ i ∧ i ≤ 1000000000
  | .bl _ => True
  | _ => False
theorem u_whole {K : PySem.W.Frag} {H : Hp} {Q : VK} {E : XK} {v : V} (h : NB v) (q : Q (.bl (isI v)) H) : sp_is_whole K [v] H Q E := by
  cases v with
  | int i => exact u_whole_int q
  | bl b => exact u_whole_bl q
  | _ => exact h.elim
def fitsV (op : Str) (a b : V) : Bool := if op = "=" then isI a == isI b else if inV (.str op) [.str "&", .str "|"] = true then !isI a && !isI b else isI a && isI b
def numBy (op : Str) (a b : Int) : Int := if op = "+" then a + b else if op = "-" then a - b else if op = "*" then a * b else if op = "/" then a.fdiv b else a.fmod b
def truthBy (op : Str) (a b : V) : Bool := match a, b with
  | .int i, .int j => if op = "<" then decide (i < j) else decide (i = j)
  | .bl i, .bl j => if op = "=" then decide (i = j) else if op = "&" then i && j else i || j
  | _, _ => false
theorem dec_s {x y : Str} : decide (V.str x = V.str y) = decide (x = y) := by
  by_cases h : x = y
  · subst h; simp
  · rw [decide_eq_false h, decide_eq_false fun e => h (V.str.inj e)]
def sp_fits : Sp := fun vs H Q _ => ∃ (op : Str) (a b : V), vs = [.str op, a, b] ∧ NB a ∧ NB b ∧ ∀ H2, Ex H H2 → Q (.bl (fitsV op a b)) H2
def sp_number_by : Sp := fun vs H Q _ => ∃ (op : Str) (a b : Int), vs = [.str op, .int a, .int b] ∧ NB (.int a) ∧ NB (.int b) ∧ (op = "+" ∨ op = "-" ∨ op = "*" ∨ b ≠ 0) ∧ ∀ H2, Ex H H2 → Q (.int (numBy op a b)) H2
def sp_truth_by : Sp := fun vs H Q _ => ∃ (op : Str) (a b : V), vs = [.str op, a, b] ∧ ((∃ i j, a = .int i ∧ b = .int j ∧ (op = "<" ∨ op = "=")) ∨ (∃ i j, a = .bl i ∧ b = .bl j ∧ op ≠ "<")) ∧ Q (.bl (truthBy op a b)) H
theorem ok_fits (T : Txt K mg Z) : FnOk P w K mg base CX0 2 Z.f_fits Z.fd_fits ["op", "one", "other"] sp_fits := by
  have G_is_whole := ok_is_whole (P := P) (w := w) (base := base) T
  refine T.F_fits.ok sc_fits (fun vs H Q E h => ?_) (fun cdv AA outer s H vs Q E hr h => ?_)
  · obtain ⟨op, a, b, rfl, _⟩ := h
    rfl
  · obtain ⟨op, a, b, rfl, ha, hb, k⟩ := h
    refine ⟨_, (pss_cons (ps_if (pt_cmpR op_eq (pv 0) pe_str (nomark _)) (pss_one (ps_ret (pe_cmpR op_eq (pe_call G_is_whole (hr.mono (by decide)) rfl T.g_is_whole T.F_is_whole.kp T.b_is_whole .nil pass0 (pa_cons (pv 1) pa_nil)) (pe_call G_is_whole (hr.mono (by decide)) rfl T.g_is_whole T.F_is_whole.kp T.b_is_whole .nil pass0 (pa_cons (pv 2) pa_nil)) (nomark _)))) pss_nil)
      (pss_cons (ps_if (pt_cmpR op_in_seq (pv 0) (pe_tup (pa_cons pe_str (pa_cons pe_str pa_nil))) (by rfl)) (pss_one (ps_ret (pe_and (pe_not (pe_call G_is_whole (hr.mono (by decide)) rfl T.g_is_whole T.F_is_whole.kp T.b_is_whole .nil pass0 (pa_cons (pv 1) pa_nil))) (pe_one (pe_not (pe_call G_is_whole (hr.mono (by decide)) rfl T.g_is_whole T.F_is_whole.kp T.b_is_whole .nil pass0 (pa_cons (pv 2) pa_nil))))))) pss_nil)
      (pss_one (ps_ret (pe_and (pe_call G_is_whole (hr.mono (by decide)) rfl T.g_is_whole T.F_is_whole.kp T.b_is_whole .nil pass0 (pa_cons (pv 1) pa_nil)) (pe_one (pe_call G_is_whole (hr.mono (by decide)) rfl T.g_is_whole T.F_is_whole.kp T.b_is_whole .nil pass0 (pa_cons (pv 2) pa_nil)))))))), ?_⟩
    unfold fitsV at k
    walk_at "ss"
    rw [dec_s]
    refine if_cs (fun hc => ?_) (fun hc => ?_)
    · rw [if_pos (of_decide_eq_true hc)] at k
      walk_at "ss"
      refine u_whole ha ?_
      walk_at "ss"
      refine u_whole hb ?_
      walk_at "ss"
      rw [dec_bl]
      exact k _ (Ex.refl _)
    · rw [if_neg (of_decide_eq_false hc)] at k
      walk_at "ss"
      refine newT fun p H2 hp e2 h2 => ?_
      walk_at "ss"
      refine c_in (.inr (SqT.of h2)) rfl rfl ?_
      walk_at "ss"
      refine if_cs (fun hc => ?_) (fun hc => ?_)
      · rw [if_pos hc] at k
        walk_at "ss"
        refine u_whole ha ?_
        walk_at "ss"
        refine if_cs (fun hd => ?_) (fun hd => ?_)
        · walk_at "ss"
          refine u_whole hb ?_
          walk_at "ss"
          rw [hd] at k
          exact k _ e2
        · walk_at "ss"
          rw [hd] at k
          exact k _ e2
      · rw [if_neg (by rw [hc]; decide)] at k
        walk_at "ss"
        refine u_whole ha ?_
        walk_at "ss"
        refine if_cs (fun hd => ?_) (fun hd => ?_)
        · walk_at "ss"
          refine u_whole hb ?_
          walk_at "ss"
          rw [hd] at k
          exact k _ e2
        · walk_at "ss"
          rw [hd] at k
          exact k _ e2
theorem str_ne {x y : Str} (h : x ≠ y) : decide (V.str x = V.str y) = false := by rw [dec_s]; exact decide_eq_false h
theorem str_eq {x y : Str} (h : x = y) : decide (V.str x = V.str y) = true := by rw [dec_s]; exact decide_eq_true h
theorem mul_ok {a b : Int} (h : NB (.int a)) : CMul a b := by
  have h1 : -1000000000 ≤ a ∧ a ≤ 1000000000 := h
  exact .inl ⟨by omega, by omega⟩
theorem ok_number_by (T : Txt K mg Z) : FnOk P w K mg base CX0 1 Z.f_number_by Z.fd_number_by ["op", "one", "other"] sp_number_by := by
  refine T.F_number_by.ok sc_number_by (fun vs H Q E h => ?_) (fun cdv AA outer s H vs Q E hr h => ?_)
  · obtain ⟨op, a, b, rfl, _⟩ := h
    rfl
  · obtain ⟨op, a, b, rfl, ha, hb, hop, k⟩ := h
    refine ⟨_, (pss_cons (ps_if (pt_cmpR op_eq (pv 0) pe_str (nomark _)) (pss_one (ps_ret (pe_op op_add (pv 1) (pv 2)))) pss_nil)
      (pss_cons (ps_if (pt_cmpR op_eq (pv 0) pe_str (nomark _)) (pss_one (ps_ret (pe_op op_sub (pv 1) (pv 2)))) pss_nil)
      (pss_cons (ps_if (pt_cmpR op_eq (pv 0) pe_str (nomark _)) (pss_one (ps_ret (pe_op op_mul (pv 1) (pv 2)))) pss_nil)
      (pss_cons (ps_asg (pe_callB call_divmodN (by rfl) T.n_divmod (by decide +kernel) (pa_cons (pv 1) (pa_cons (pv 2) pa_nil))) (pg_tup (by rfl) (pgs_cons (pg_name (i := 3) sc_number_by.nd rfl (Or.inl rfl)) (pgs_cons (pg_name (i := 4) sc_number_by.nd rfl (Or.inl rfl)) pgs_nil))))
      (pss_cons (ps_if (pt_cmpR op_eq (pv 0) pe_str (nomark _)) (pss_one (ps_ret (pv 3))) pss_nil)
      (pss_one (ps_ret (pv 4)))))))), ?_⟩
    unfold numBy at k
    walk_at "ss"
    rw [dec_s]
    refine if_cs (fun h1 => ?_) (fun h1 => ?_)
    · rw [if_pos (of_decide_eq_true h1)] at k
      walk_at "ss"
      exact k _ (Ex.refl _)
    rw [if_neg (of_decide_eq_false h1)] at k
    walk_at "ss"
    rw [dec_s]
    refine if_cs (fun h2 => ?_) (fun h2 => ?_)
    · rw [if_pos (of_decide_eq_true h2)] at k
      walk_at "ss"
      exact k _ (Ex.refl _)
    rw [if_neg (of_decide_eq_false h2)] at k
    walk_at "ss"
    rw [dec_s]
    refine if_cs (fun h3 => ?_) (fun h3 => ?_)
    · rw [if_pos (of_decide_eq_true h3)] at k
      walk_at "ss"
      refine c_I (mul_ok ha) ?_
      exact k _ (Ex.refl _)
    rw [if_neg (of_decide_eq_false h3)] at k
    have hb0 : b ≠ 0 := by
      rcases hop with e | e | e | e
      · exact absurd e (of_decide_eq_false h1)
      · exact absurd e (of_decide_eq_false h2)
      · exact absurd e (of_decide_eq_false h3)
      · exact e
    have hb' : -1000000000 ≤ b ∧ b ≤ 1000000000 := hb
    walk_at "ss"
    refine ⟨a, b, rfl, ⟨hb0, by omega⟩, fun p hp => ?_⟩
    walk_at "ss"
    refine c_gTup (SqT.of upd_same) rfl ?_
    walk_at "ss"
    rw [dec_s]
    refine if_cs (fun h4 => ?_) (fun h4 => ?_)
    · rw [if_pos (of_decide_eq_true h4)] at k
      walk_at "ss"
      exact k _ (Ex.new hp)
    · rw [if_neg (of_decide_eq_false h4)] at k
      walk_at "ss"
      exact k _ (Ex.new hp)
theorem ok_truth_by (T : Txt K mg Z) : FnOk P w K mg base CX0 1 Z.f_truth_by Z.fd_truth_by ["op", "one", "other"] sp_truth_by := by
  refine T.F_truth_by.ok sc_truth_by (fun vs H Q E h => ?_) (fun cdv AA outer s H vs Q E hr h => ?_)
  · obtain ⟨op, a, b, rfl, _⟩ := h
    rfl
  · obtain ⟨op, a, b, rfl, hop, k⟩ := h
    refine ⟨_, (pss_cons (ps_if (pt_cmpR op_eq (pv 0) pe_str (nomark _)) (pss_one (ps_ret (pe_cmpR op_lt (pv 1) (pv 2) (nomark _)))) pss_nil)
      (pss_cons (ps_if (pt_cmpR op_eq (pv 0) pe_str (nomark _)) (pss_one (ps_ret (pe_cmpR op_eq (pv 1) (pv 2) (nomark _)))) pss_nil)
      (pss_cons (ps_if (pt_cmpR op_eq (pv 0) pe_str (nomark _)) (pss_one (ps_ret (pe_andT (pv 1) (pe_one (pv 2))))) pss_nil)
      (pss_one (ps_ret (pe_orT (pv 1) (pe_one (pv 2)))))))), ?_⟩
    rcases hop with ⟨i, j, rfl, rfl, hop⟩ | ⟨i, j, rfl, rfl, hop⟩
    · dsimp only [truthBy] at k
      walk_at "ss"
      rw [dec_s]
      refine if_cs (fun h1 => ?_) (fun h1 => ?_)
      · rw [if_pos (of_decide_eq_true h1)] at k
        walk_at "ss"
        exact k
      rw [if_neg (of_decide_eq_false h1)] at k
      have ho : op = "=" := by
        rcases hop with e | e
        · exact absurd e (of_decide_eq_false h1)
        · exact e
      walk_at "ss"
      refine if_tt (str_eq ho) ?_
      walk_at "ss"
      rw [dec_int, Bool.beq_eq_decide_eq]
      exact k
    · dsimp only [truthBy] at k
      walk_at "ss"
      refine if_ff (str_ne hop) ?_
      walk_at "ss"
      rw [dec_s]
      refine if_cs (fun h1 => ?_) (fun h1 => ?_)
      · rw [if_pos (of_decide_eq_true h1)] at k
        walk_at "ss"
        rw [dec_bl, Bool.beq_eq_decide_eq]
        exact k
      rw [if_neg (of_decide_eq_false h1)] at k
      walk_at "ss"
      rw [dec_s]
      refine if_cs (fun h2 => ?_) (fun h2 => ?_)
      · rw [if_pos (of_decide_eq_true h2)] at k
        walk_at "ss"
        refine ⟨_, rfl, if_cs (fun h3 => ?_) (fun h3 => ?_)⟩
        · walk_at "ss"
          rw [h3] at k
          exact k
        · walk_at "ss"
          rw [h3] at k ⊢
          exact k
      · rw [if_neg (of_decide_eq_false h2)] at k
        walk_at "ss"
        refine ⟨_, rfl, if_cs (fun h3 => ?_) (fun h3 => ?_)⟩
        · walk_at "ss"
          rw [h3] at k ⊢
          exact k
        · walk_at "ss"
          rw [h3] at k
          exact k
abbrev opsN : List Str := ["+", "-", "*", "/", "mod", "<"]
abbrev opsT : List Str := ["&", "|"]
def ops9 : List Str := ["+", "-", "*", "/", "mod", "<", "=", "&", "|"]
def toI : V → Int
  | .int i => i
  | _ => 0
def numRes (n : Int) : List V := if (decide (-1000000000 ≤ n) && decide (n ≤ 1000000000)) = true then [.int n, .non] else [.non, .str "great"]
def reck (op : Str) (a b : V) : List V :=
  if fitsV op a b = false then [.non, .str "kind"] else
  if inV (.str op) [.str "/", .str "mod"] = true ∧ b = .int 0 then [.non, .str "nought"] else
  if inV (.str op) [.str "<", .str "=", .str "&", .str "|"] = true then [.bl (truthBy op a b), .non] else
  numRes (numBy op (toI a) (toI b))
theorem fits_num {op : Str} {a b : V} (h : op ∈ opsN) : fitsV op a b = (isI a && isI b) := by
  have h1 : ¬ op = "=" := by
    rintro rfl
    exact absurd h (by decide +kernel)
  have h2 : ¬ inV (.str op) [.str "&", .str "|"] = true := by
    simp only [List.mem_cons, List.not_mem_nil, or_false] at h
    rcases h with rfl | rfl | rfl | rfl | rfl | rfl <;> decide +kernel
  unfold fitsV
  rw [if_neg h1, if_neg h2]
theorem fits_eq {a b : V} : fitsV "=" a b = (isI a == isI b) := by
  unfold fitsV
  rw [if_pos rfl]
theorem fits_tr {op : Str} {a b : V} (h : op ∈ opsT) : fitsV op a b = (!isI a && !isI b) := by
  have h1 : ¬ op = "=" := by
    rintro rfl
    exact absurd h (by decide +kernel)
  have h2 : inV (.str op) [.str "&", .str "|"] = true := by
    simp only [List.mem_cons, List.not_mem_nil, or_false] at h
    rcases h with rfl | rfl <;> decide +kernel
  unfold fitsV
  rw [if_neg h1, if_pos h2]
theorem ints_of {a b : V} (h : (isI a && isI b) = true) : ∃ i j, a = .int i ∧ b = .int j := by
  cases a <;> first | exact absurd h Bool.false_ne_true | (cases b <;> first | exact absurd h Bool.false_ne_true | exact ⟨_, _, rfl, rfl⟩)
theorem bls_of {a b : V} (na : NB a) (nb : NB b) (h : (!isI a && !isI b) = true) : ∃ i j, a = .bl i ∧ b = .bl j := by
  cases a <;> first | exact absurd h Bool.false_ne_true | exact na.elim | (cases b <;> first | exact absurd h Bool.false_ne_true | exact nb.elim | exact ⟨_, _, rfl, rfl⟩)
/-- which operators a test tells apart -/
theorem ops_mod {op : Str} (h : op ∈ ops9) (hi : inV (.str op) [.str "/", .str "mod"] = true) : op ∈ opsN ∧ inV (.str op) [.str "<", .str "=", .str "&", .str "|"] = false := by
  simp only [ops9, List.mem_cons, List.not_mem_nil, or_false] at h
  rcases h with rfl | rfl | rfl | rfl | rfl | rfl | rfl | rfl | rfl <;> first | exact absurd hi (by decide +kernel) | exact ⟨by decide +kernel, by decide +kernel⟩
theorem ops_tru {op : Str} (h : op ∈ ops9) (hi : inV (.str op) [.str "<", .str "=", .str "&", .str "|"] = true) : op = "<" ∨ op = "=" ∨ (op ∈ opsT ∧ op ≠ "<") := by
  simp only [ops9, List.mem_cons, List.not_mem_nil, or_false] at h
  rcases h with rfl | rfl | rfl | rfl | rfl | rfl | rfl | rfl | rfl <;> first | exact absurd hi (by decide +kernel) | exact .inl rfl | exact .inr (.inl rfl) | exact .inr (.inr ⟨by decide +kernel, by decide +kernel⟩)
theorem ops_sum {op : Str} (h : op ∈ ops9) (h1 : inV (.str op) [.str "/", .str "mod"] = false) (hi : inV (.str op) [.str "<", .str "=", .str "&", .str "|"] = false) : op ∈ opsN ∧ (op = "+" ∨ op = "-" ∨ op = "*") := by
  simp only [ops9, List.mem_cons, List.not_mem_nil, or_false] at h
  rcases h with rfl | rfl | rfl | rfl | rfl | rfl | rfl | rfl | rfl <;> first | exact absurd hi (by decide +kernel) | exact absurd h1 (by decide +kernel) | exact ⟨by decide +kernel, by first | exact .inl rfl | exact .inr (.inl rfl) | exact .inr (.inr rfl)⟩
def sp_reckoned : Sp := fun vs H Q _ => ∃ (op : Str) (a b : V), vs = [.str op, a, b] ∧ NB a ∧ NB b ∧ op ∈ ops9 ∧ RetT (reck op a b) H Q
def sp_contrary : Sp := fun vs H Q _ => ∃ (a : V), vs = [a] ∧ ((∃ i, a = .int i ∧ RetT [.non, .str "kind"] H Q) ∨ ∃ b, a = .bl b ∧ RetT [.bl (!b), .non] H Q)
theorem ok_reckoned (T : Txt K mg Z) : FnOk P w K mg base CX0 4 Z.f_reckoned Z.fd_reckoned ["op", "one", "other"] sp_reckoned := by
  have G_is_value := ok_is_value (P := P) (w := w) (base := base) T
  have G_fits := ok_fits (P := P) (w := w) (base := base) T
  have G_number_by := ok_number_by (P := P) (w := w) (base := base) T
  have G_truth_by := ok_truth_by (P := P) (w := w) (base := base) T
  refine T.F_reckoned.ok sc_reckoned (fun vs H Q E h => ?_) (fun cdv AA outer s H vs Q E hr h => ?_)
  · obtain ⟨op, a, b, rfl, _⟩ := h
    rfl
  · obtain ⟨op, a, b, rfl, na, nb, hop, k⟩ := h
    refine ⟨_, (pss_cons (ps_if (pt_not (pt_val (pe_call G_fits (hr.mono (by decide)) rfl T.g_fits T.F_fits.kp T.b_fits .nil pass0 (pa_cons (pv 0) (pa_cons (pv 1) (pa_cons (pv 2) pa_nil)))))) (pss_one (ps_ret (pe_tup (pa_cons pe_non (pa_cons pe_str pa_nil))))) pss_nil)
      (pss_cons (ps_if (PW.pt (pw_and (pt_cmpR op_in_seq (pv 0) (pe_tup (pa_cons pe_str (pa_cons pe_str pa_nil))) (by rfl)) (pw_and1 (pt_cmpR op_eq (pv 2) pe_int (nomark _))))) (pss_one (ps_ret (pe_tup (pa_cons pe_non (pa_cons pe_str pa_nil))))) pss_nil)
      (pss_cons (ps_if (pt_cmpR op_in_seq (pv 0) (pe_tup (pa_cons pe_str (pa_cons pe_str (pa_cons pe_str (pa_cons pe_str pa_nil))))) (by rfl)) (pss_one (ps_ret (pe_tup (pa_cons (pe_call G_truth_by (hr.mono (by decide)) rfl T.g_truth_by T.F_truth_by.kp T.b_truth_by .nil pass0 (pa_cons (pv 0) (pa_cons (pv 1) (pa_cons (pv 2) pa_nil)))) (pa_cons pe_non pa_nil))))) pss_nil)
      (pss_cons (ps_set (i := 3) sc_reckoned.nd rfl (Or.inl rfl) (pe_call G_number_by (hr.mono (by decide)) rfl T.g_number_by T.F_number_by.kp T.b_number_by .nil pass0 (pa_cons (pv 0) (pa_cons (pv 1) (pa_cons (pv 2) pa_nil)))))
      (pss_cons (ps_if (pt_not (pt_val (pe_call G_is_value (hr.mono (by decide)) rfl T.g_is_value T.F_is_value.kp T.b_is_value .nil pass0 (pa_cons (pv 3) pa_nil)))) (pss_one (ps_ret (pe_tup (pa_cons pe_non (pa_cons pe_str pa_nil))))) pss_nil)
      (pss_one (ps_ret (pe_tup (pa_cons (pv 3) (pa_cons pe_non pa_nil)))))))))), ?_⟩
    unfold reck at k
    walk_at "ss"
    refine ⟨_, _, _, rfl, na, nb, fun H1 e1 => ?_⟩
    walk_at "ss"
    cases hf : fitsV op a b with
    | false =>
      rw [if_pos hf] at k
      walk_at "ss"
      exact newT (k.up e1)
    | true =>
      rw [if_neg (by rw [hf]; decide)] at k
      walk_at "ss"
      refine newT fun p H2 hp e2 h2 => ?_
      walk_at "ss"
      refine c_in (.inr (SqT.of h2)) rfl rfl ?_
      walk_at "ss"
      refine if_cs (fun c1 => ?_) (fun c1 => ?_)
      · obtain ⟨ho, c2⟩ := ops_mod hop c1
        rw [fits_num ho] at hf
        obtain ⟨i, j, rfl, rfl⟩ := ints_of hf
        walk_at "ss"
        by_cases hj : j = 0
        · rw [if_pos ⟨c1, by rw [hj]⟩] at k
          refine if_tt (decide_eq_true (by rw [hj])) ?_
          walk_at "ss"
          exact newT (k.up (e1.trans e2))
        · have hj' : ¬ V.int j = V.int 0 := fun e => hj (V.int.inj e)
          rw [if_neg fun e => hj' e.2, if_neg (by rw [c2]; decide)] at k
          change RetT (numRes (numBy op i j)) H Q at k
          unfold numRes at k
          refine if_ff (decide_eq_false hj') ?_
          walk_at "ss"
          refine newT fun p H3 hp e3 h3 => ?_
          walk_at "ss"
          refine c_in (.inr (SqT.of h3)) rfl rfl ?_
          walk_at "ss"
          refine if_ff c2 ?_
          walk_at "ss"
          refine ⟨_, _, _, rfl, na, nb, .inr (.inr (.inr hj)), fun H4 e4 => ?_⟩
          walk_at "ss"
          refine ⟨_, rfl, .inl ⟨_, rfl, ?_⟩⟩
          walk_at "ss"
          have e := ((e1.trans e2).trans e3).trans e4
          refine if_cs (fun c3 => ?_) (fun c3 => ?_)
          · rw [Bool.not_eq_true'] at c3
            rw [if_neg (by rw [c3]; decide)] at k
            walk_at "ss"
            exact newT (k.up e)
          · rw [Bool.not_eq_false'] at c3
            rw [if_pos c3] at k
            walk_at "ss"
            exact newT (k.up e)
      · walk_at "ss"
        rw [if_neg fun e => absurd e.1 (by rw [c1]; decide)] at k
        refine newT fun p H3 hp e3 h3 => ?_
        walk_at "ss"
        refine c_in (.inr (SqT.of h3)) rfl rfl ?_
        walk_at "ss"
        refine if_cs (fun c2 => ?_) (fun c2 => ?_)
        · rw [if_pos c2] at k
          walk_at "ss"
          refine ⟨_, _, _, rfl, ?_, ?_⟩
          · rcases ops_tru hop c2 with rfl | rfl | ⟨ho, hn⟩
            · rw [fits_num (by decide +kernel)] at hf
              obtain ⟨i, j, rfl, rfl⟩ := ints_of hf
              exact .inl ⟨_, _, rfl, rfl, .inl rfl⟩
            · rw [fits_eq] at hf
              cases hi : isI a with
              | true =>
                rw [hi] at hf
                obtain ⟨i, j, rfl, rfl⟩ := ints_of (a := a) (b := b) (by rw [hi, ← beq_iff_eq.mp hf]; rfl)
                exact .inl ⟨_, _, rfl, rfl, .inr rfl⟩
              | false =>
                rw [hi] at hf
                obtain ⟨i, j, rfl, rfl⟩ := bls_of na nb (by rw [hi, ← beq_iff_eq.mp hf]; rfl)
                exact .inr ⟨_, _, rfl, rfl, by decide +kernel⟩
            · rw [fits_tr ho] at hf
              obtain ⟨i, j, rfl, rfl⟩ := bls_of na nb hf
              exact .inr ⟨_, _, rfl, rfl, hn⟩
          · walk_at "ss"
            exact newT (k.up ((e1.trans e2).trans e3))
        · obtain ⟨ho, hs⟩ := ops_sum hop c1 c2
          rw [if_neg (by rw [c2]; decide)] at k
          rw [fits_num ho] at hf
          obtain ⟨i, j, rfl, rfl⟩ := ints_of hf
          change RetT (numRes (numBy op i j)) H Q at k
          unfold numRes at k
          walk_at "ss"
          refine ⟨_, _, _, rfl, na, nb, ?_, fun H4 e4 => ?_⟩
          · rcases hs with e | e | e
            · exact .inl e
            · exact .inr (.inl e)
            · exact .inr (.inr (.inl e))
          walk_at "ss"
          refine ⟨_, rfl, .inl ⟨_, rfl, ?_⟩⟩
          walk_at "ss"
          have e := ((e1.trans e2).trans e3).trans e4
          refine if_cs (fun c3 => ?_) (fun c3 => ?_)
          · rw [Bool.not_eq_true'] at c3
            rw [if_neg (by rw [c3]; decide)] at k
            walk_at "ss"
            exact newT (k.up e)
          · rw [Bool.not_eq_false'] at c3
            rw [if_pos c3] at k
            walk_at "ss"
            exact newT (k.up e)

/-! ### the law's cells and draws -/
def sp_cell_at_l (K : PySem.W.Frag) : Sp := fun vs H Q _ => ∃ (a : Addr) (ns : List Int) (k : Int), vs = [.ref a, .int k] ∧ SqL K H a (ns.map V.int) ∧ 0 ≤ k ∧ ∀ n, Q (.int n) H
def sp_box_l : Sp := fun vs H Q _ => ∃ (c : Int), vs = [.int c] ∧ ∀ p H2, H p = none → Ex H H2 → BoxAt H2 p → Q (.ref p) H2
def sp_take_l : Sp := fun vs H Q _ => ∃ (b : Addr) (m : Int), vs = [.ref b, .int m] ∧ BoxAt H b ∧ 0 < m ∧ m < 1073741824 ∧ ∀ d H2, 0 ≤ d → d < m → ExB b H H2 → BoxAt H2 b → Q (.int d) H2
theorem ok_cell_at_l (T : Txt K mg Z) : FnOk P w K mg base CX0 1 Z.f_cell_at_l Z.fd_cell_at_l ["_law_script", "_law_k"] (sp_cell_at_l K) := by
  refine T.F_cell_at_l.ok sc_cell_at_l (fun vs H Q E h => ?_) (fun cdv AA outer s H vs Q E hr h => ?_)
  · obtain ⟨a, ns, k, rfl, _⟩ := h
    rfl
  · obtain ⟨a, ns, k, rfl, hS, h0, q⟩ := h
    refine ⟨_, (pss_cons (ps_if (pt_cmpR op_lt (pv 1) (pe_callB call_len_seq (by rfl) T.n_len (by decide +kernel) (pa_cons (pv 0) pa_nil)) (nomark _)) (pss_one (ps_ret (pe_ix ix_list (pv 0) (pv 1) (fun _ _ => rfl)))) pss_nil)
      (pss_one (ps_ret (pe_op op_add (pe_op op_mul pe_int (pv 1)) pe_int)))), ?_⟩
    walk_at "ss"
    refine ⟨_, _, rfl, .inl hS, ?_⟩
    walk_at "ss"
    refine if_cs (fun hb => ?_) (fun hb => ?_)
    · walk_at "ss"
      obtain ⟨j, rfl⟩ := Int.eq_ofNat_of_zero_le h0
      have hl := of_decide_eq_true hb
      rw [List.length_map] at hl
      have hj : j < ns.length := by omega
      refine c_ixL hS (atI_nat (v := .int (ns[j]'hj)) ?_) (q _)
      rw [List.getElem?_map, List.getElem?_eq_getElem hj] <;> rfl
    · walk_at "ss"
      refine c_I (.inl ⟨by decide, by decide⟩) ?_
      walk_at "ss"
      exact q _
theorem int_mul01 {a : Int} {b : Bool} : CMul a (if b = true then 1 else 0) := by
  refine .inr ?_
  cases b
  · exact ⟨by decide, by decide⟩
  · exact ⟨by decide, by decide⟩
theorem ok_box_l (T : Txt K mg Z) : FnOk P w K mg base CX0 1 Z.f_box_l Z.fd_box_l ["_law_cell"] sp_box_l := by
  refine T.F_box_l.ok sc_box_l (fun vs H Q E h => ?_) (fun cdv AA outer s H vs Q E hr h => ?_)
  · obtain ⟨c, rfl, _⟩ := h
    rfl
  · obtain ⟨c, rfl, k⟩ := h
    refine ⟨_, (pss_one (ps_ret (pe_lst (pa_cons (pe_op op_mul (pe_callB (call_max2 rfl) (by rfl) T.n_max (by decide +kernel) (pa_cons pe_int (pa_cons (pv 0) pa_nil))) (pe_callTy call_int1 (by rfl) T.n_int (by decide +kernel) (pa_cons (pe_cmpR op_ge (pv 0) (pe_op op_pow pe_int pe_int) (nomark _)) pa_nil))) (pa_cons (pe_op op_mod (pv 0) pe_int) (pa_cons pe_int pa_nil)))))), ?_⟩
    walk_at "ss"
    refine ⟨_, _, rfl, ?_⟩
    walk_at "ss"
    refine c_I ⟨by decide, by decide, by decide⟩ ?_
    walk_at "ss"
    refine .inr ⟨_, rfl, ?_⟩
    walk_at "ss"
    refine c_I int_mul01 ?_
    walk_at "ss"
    refine c_I (by decide) ?_
    walk_at "ss"
    refine newL fun p H2 hp e2 h2 => k p H2 hp e2 ⟨_, _, _, ?_, h2⟩
    refine Int.mul_nonneg ?_ ?_
    · split <;> omega
    · split <;> omega
theorem ix3_0 {a b c : V} : atI [a, b, c] 0 = some a := rfl
theorem ix3_1 {a b c : V} : atI [a, b, c] 1 = some b := rfl
theorem ix3_2 {a b c : V} : atI [a, b, c] 2 = some c := rfl
theorem emod_mul {a m : Int} (h : 0 < m) (hm : m < 1073741824 * 1073741824) {b : Int} : CMul (a % m) b := by
  have h1 := Int.emod_nonneg a (by omega : m ≠ 0)
  have h2 := Int.emod_lt_of_pos a h
  exact .inl ⟨by omega, by omega⟩
theorem ok_take_l (T : Txt K mg Z) : FnOk P w K mg base CX0 1 Z.f_take_l Z.fd_take_l ["_law_box_here", "_law_many"] sp_take_l := by
  refine T.F_take_l.ok sc_take_l (fun vs H Q E h => ?_) (fun cdv AA outer s H vs Q E hr h => ?_)
  · obtain ⟨b, m, rfl, _⟩ := h
    rfl
  · obtain ⟨b, m, rfl, ⟨x, y, z, hx, hB⟩, m0, m1, k⟩ := h
    refine ⟨_, (pss_cons (ps_if (pt_cmpR op_gt (pe_ix ix_list (pv 0) pe_int (fun _ _ => rfl)) pe_int (nomark _)) (pss_cons (ps_set (i := 2) sc_take_l.nd rfl (Or.inl rfl) (pe_op op_mod (pe_ix ix_list (pv 0) pe_int (fun _ _ => rfl)) (pv 1)))
      (pss_cons (ps_asg (pe_op op_fdiv (pe_ix ix_list (pv 0) pe_int (fun _ _ => rfl)) (pv 1)) (pg_sub (pv 0) pe_int set_list))
      (pss_one (ps_ret (pv 2))))) pss_nil)
      (pss_cons (ps_asg (pe_op op_add (pe_ix ix_list (pv 0) pe_int (fun _ _ => rfl)) pe_int) (pg_sub (pv 0) pe_int set_list))
      (pss_cons (ps_set (i := 3) sc_take_l.nd rfl (Or.inl rfl) (pe_op op_mod (pe_op op_mul (pe_op op_add (pe_ix ix_list (pv 0) pe_int (fun _ _ => rfl)) (pe_op op_mul pe_int (pe_ix ix_list (pv 0) pe_int (fun _ _ => rfl)))) pe_int) pe_int))
      (pss_cons (ps_set (i := 3) sc_take_l.nd rfl (Or.inl rfl) (pe_op op_mod (pe_op op_mul (pv 3) (pv 3)) pe_int))
      (pss_cons (ps_set (i := 4) sc_take_l.nd rfl (Or.inl rfl) (pe_op op_fdiv (pe_op op_mod (pe_op op_mul (pe_op op_add (pv 3) (pe_ix ix_list (pv 0) pe_int (fun _ _ => rfl))) (pe_op op_add (pv 3) pe_int)) pe_int) pe_int))
      (pss_cons (ps_set (i := 5) sc_take_l.nd rfl (Or.inl rfl) (pe_op op_mod (pe_op op_add (pe_op op_mul (pv 3) pe_int) (pe_op op_mul pe_int (pe_ix ix_list (pv 0) pe_int (fun _ _ => rfl)))) pe_int))
      (pss_one (ps_ret (pe_op op_mod (pe_op op_add (pe_op op_mul (pv 4) pe_int) (pe_op op_mod (pe_op op_mul (pv 5) (pv 5)) pe_int)) (pv 1)))))))))), ?_⟩
    walk_at "ss"
    refine c_ixL (SqL.of hB) ix3_0 ?_
    walk_at "ss"
    refine if_cs (fun hb => ?_) (fun hb => ?_)
    · walk_at "ss"
      refine c_ixL (SqL.of hB) ix3_0 ?_
      walk_at "ss"
      refine c_I m0 ?_
      walk_at "ss"
      refine c_ixL (SqL.of hB) ix3_0 ?_
      walk_at "ss"
      refine c_I ⟨m0, m1⟩ ?_
      walk_at "ss"
      refine c_setL hB rfl ?_
      walk_at "ss"
      refine k _ _ (Int.emod_nonneg _ (by omega)) (Int.emod_lt_of_pos _ m0) ExB.upd ⟨_, _, _, Int.ediv_nonneg hx (by omega), upd_same⟩
    · walk_at "ss"
      refine c_ixL (SqL.of hB) ix3_2 ?_
      walk_at "ss"
      refine c_setL hB rfl ?_
      have hB2 : (upd H b (.lst [.int x, .int y, .int (z + 1)])) b = some (.lst [.int x, .int y, .int (z + 1)]) := upd_same
      walk_at "ss"
      refine c_ixL (SqL.of hB2) ix3_1 ?_
      walk_at "ss"
      refine c_ixL (SqL.of hB2) ix3_2 ?_
      walk_at "ss"
      refine c_I (.inl ⟨by decide, by decide⟩) ?_
      walk_at "ss"
      refine c_I (.inr ⟨by decide, by decide⟩) ?_
      walk_at "ss"
      refine c_I (by decide) ?_
      walk_at "ss"
      refine c_I (emod_mul (by decide) (by decide)) ?_
      walk_at "ss"
      refine c_I (by decide) ?_
      walk_at "ss"
      refine c_ixL (SqL.of hB2) ix3_2 ?_
      walk_at "ss"
      refine c_I (.inr ?_) ?_
      · have h1 := Int.emod_nonneg ((y + 7919 * (z + 1)) * 48271 % 2147483647 * ((y + 7919 * (z + 1)) * 48271 % 2147483647)) (by decide : (2147483629 : Int) ≠ 0)
        have h2 := Int.emod_lt_of_pos ((y + 7919 * (z + 1)) * 48271 % 2147483647 * ((y + 7919 * (z + 1)) * 48271 % 2147483647)) (by decide : (0 : Int) < 2147483629)
        exact ⟨by omega, by omega⟩
      walk_at "ss"
      refine c_I (by decide) ?_
      walk_at "ss"
      refine c_I ⟨by decide, by decide⟩ ?_
      walk_at "ss"
      refine c_I (.inr ⟨by decide, by decide⟩) ?_
      walk_at "ss"
      refine c_ixL (SqL.of hB2) ix3_2 ?_
      walk_at "ss"
      refine c_I (.inl ⟨by decide, by decide⟩) ?_
      walk_at "ss"
      refine c_I (by decide) ?_
      walk_at "ss"
      refine c_I (.inr ⟨by decide, by decide⟩) ?_
      walk_at "ss"
      refine c_I (emod_mul (by decide) (by decide)) ?_
      walk_at "ss"
      refine c_I (by decide) ?_
      walk_at "ss"
      refine c_I m0 ?_
      walk_at "ss"
      exact k _ _ (Int.emod_nonneg _ (by omega)) (Int.emod_lt_of_pos _ m0) ExB.upd ⟨_, _, _, hx, upd_same⟩

theorem box_ne {H : Hp} {b a : Addr} {o : HO} (h : BoxAt H b) (ha : H a = some o) (n : ∀ x y z : Int, o ≠ .lst [.int x, .int y, .int z]) : a ≠ b := by
  obtain ⟨x, y, z, _, q⟩ := h
  exact ne_of ha q (n x y z)
theorem at4 {v0 v1 v2 v3 : V} {d : Int} (h0 : 0 ≤ d) (h1 : d < 4) : ∃ v, atI [v0, v1, v2, v3] d = some v ∧ (d = 0 ∧ v = v0 ∨ d = 1 ∧ v = v1 ∨ d = 2 ∧ v = v2 ∨ d = 3 ∧ v = v3) := by
  have : d = 0 ∨ d = 1 ∨ d = 2 ∨ d = 3 := by omega
  rcases this with rfl | rfl | rfl | rfl
  · exact ⟨v0, rfl, .inl ⟨rfl, rfl⟩⟩
  · exact ⟨v1, rfl, .inr (.inl ⟨rfl, rfl⟩)⟩
  · exact ⟨v2, rfl, .inr (.inr (.inl ⟨rfl, rfl⟩))⟩
  · exact ⟨v3, rfl, .inr (.inr (.inr ⟨rfl, rfl⟩))⟩
/-- an item of a list that is asked by a draw: it is one of them -/
theorem at_in {xs : List V} {d : Int} (h0 : 0 ≤ d) (h1 : d < (xs.length : Int)) : ∃ v, atI xs d = some v ∧ v ∈ xs := by
  obtain ⟨j, rfl⟩ := Int.eq_ofNat_of_zero_le h0
  have hj : j < xs.length := by omega
  exact ⟨xs[j], atI_nat (List.getElem?_eq_getElem hj), List.getElem_mem hj⟩

theorem numRes_in {n : Int} (h : NB (.int n)) : numRes n = [.int n, .non] := by
  have h1 : -1000000000 ≤ n ∧ n ≤ 1000000000 := h
  unfold numRes
  rw [if_pos (by rw [decide_eq_true h1.1, decide_eq_true h1.2]; rfl)]
theorem numRes_cs (n : Int) : (numRes n = [.int n, .non] ∧ NB (.int n)) ∨ numRes n = [.non, .str "great"] := by
  by_cases h : -1000000000 ≤ n ∧ n ≤ 1000000000
  · exact .inl ⟨numRes_in h, h⟩
  · refine .inr ?_
    unfold numRes
    refine if_neg fun q => h ?_
    rw [Bool.and_eq_true, decide_eq_true_eq, decide_eq_true_eq] at q
    exact q
theorem reck_num {op : Str} {a b : Int} (h : op ∈ opsN) (h1 : ¬ (inV (.str op) [.str "/", .str "mod"] = true ∧ V.int b = .int 0)) (h2 : inV (.str op) [.str "<", .str "=", .str "&", .str "|"] = false) : reck op (.int a) (.int b) = numRes (numBy op a b) := by
  unfold reck
  rw [fits_num h, if_neg (by simp [isI]), if_neg h1, if_neg (by rw [h2]; decide)]
  rfl
theorem reck_add {a b : Int} : reck "+" (.int a) (.int b) = numRes (a + b) := by
  rw [reck_num (by decide +kernel) (fun q => absurd q.1 (by decide +kernel)) (by decide +kernel)]
  unfold numBy
  rw [if_pos rfl]
theorem reck_sub {a b : Int} : reck "-" (.int a) (.int b) = numRes (a - b) := by
  rw [reck_num (by decide +kernel) (fun q => absurd q.1 (by decide +kernel)) (by decide +kernel)]
  unfold numBy
  rw [if_neg (by decide +kernel), if_pos rfl]
theorem reck_mul {a b : Int} : reck "*" (.int a) (.int b) = numRes (a * b) := by
  rw [reck_num (by decide +kernel) (fun q => absurd q.1 (by decide +kernel)) (by decide +kernel)]
  unfold numBy
  rw [if_neg (by decide +kernel), if_neg (by decide +kernel), if_pos rfl]
theorem reck_div {a b : Int} (h : b ≠ 0) : reck "/" (.int a) (.int b) = numRes (a.fdiv b) := by
  rw [reck_num (by decide +kernel) (fun q => h (V.int.inj q.2)) (by decide +kernel)]
  unfold numBy
  rw [if_neg (by decide +kernel), if_neg (by decide +kernel), if_neg (by decide +kernel), if_pos rfl]
theorem reck_mod {a b : Int} (h : b ≠ 0) : reck "mod" (.int a) (.int b) = numRes (a.fmod b) := by
  rw [reck_num (by decide +kernel) (fun q => h (V.int.inj q.2)) (by decide +kernel)]
  unfold numBy
  rw [if_neg (by decide +kernel), if_neg (by decide +kernel), if_neg (by decide +kernel), if_neg (by decide +kernel)]
theorem reck_nought {op : Str} {a : Int} (h : op = "/" ∨ op = "mod") : reck op (.int a) (.int 0) = [.non, .str "nought"] := by
  rcases h with rfl | rfl
  · unfold reck
    rw [fits_num (by decide +kernel), if_neg (by simp [isI]), if_pos ⟨by decide +kernel, rfl⟩]
  · unfold reck
    rw [fits_num (by decide +kernel), if_neg (by simp [isI]), if_pos ⟨by decide +kernel, rfl⟩]
theorem reck_lt {a b : Int} : reck "<" (.int a) (.int b) = [.bl (decide (a < b)), .non] := by
  unfold reck
  rw [fits_num (by decide +kernel), if_neg (by simp [isI]), if_neg (fun q => absurd q.1 (by decide +kernel)), if_pos (by decide +kernel)]
  dsimp only [truthBy]
  rw [if_pos rfl]
theorem reck_eqI {a b : Int} : reck "=" (.int a) (.int b) = [.bl (decide (a = b)), .non] := by
  unfold reck
  rw [fits_eq, if_neg (by simp [isI]), if_neg (fun q => absurd q.1 (by decide +kernel)), if_pos (by decide +kernel)]
  dsimp only [truthBy]
  rw [if_neg (by decide +kernel)]
theorem reck_eqB {a b : Bool} : reck "=" (.bl a) (.bl b) = [.bl (decide (a = b)), .non] := by
  unfold reck
  rw [fits_eq, if_neg (by simp [isI]), if_neg (fun q => absurd q.1 (by decide +kernel)), if_pos (by decide +kernel)]
  dsimp only [truthBy]
  rw [if_pos rfl]
theorem reck_and {a b : Bool} : reck "&" (.bl a) (.bl b) = [.bl (a && b), .non] := by
  unfold reck
  rw [fits_tr (by decide +kernel), if_neg (by simp [isI]), if_neg (fun q => absurd q.1 (by decide +kernel)), if_pos (by decide +kernel)]
  dsimp only [truthBy]
  rw [if_neg (by decide +kernel), if_pos rfl]
theorem reck_or {a b : Bool} : reck "|" (.bl a) (.bl b) = [.bl (a || b), .non] := by
  unfold reck
  rw [fits_tr (by decide +kernel), if_neg (by simp [isI]), if_neg (fun q => absurd q.1 (by decide +kernel)), if_pos (by decide +kernel)]
  dsimp only [truthBy]
  rw [if_neg (by decide +kernel), if_neg (by decide +kernel)]
theorem reck_kind {op : Str} {a b : V} (h : fitsV op a b = false) : reck op a b = [.non, .str "kind"] := by
  unfold reck
  rw [if_pos h]
/-- the quotient and the rest of two numbers within -/
theorem div_in {a b : Int} (ha : NB (.int a)) (hb : NB (.int b)) (h0 : b ≠ 0) : NB (.int (a.fdiv b)) ∧ NB (.int (a.fmod b)) ∧ a.fdiv b * b + a.fmod b = a ∧ (if a.fmod b < 0 then -(a.fmod b) else a.fmod b) < (if b < 0 then -b else b) ∧ (a.fmod b = 0 ∨ decide (a.fmod b < 0) = decide (b < 0)) := by
  have ha1 : -1000000000 ≤ a ∧ a ≤ 1000000000 := ha
  have hb1 : -1000000000 ≤ b ∧ b ≤ 1000000000 := hb
  have e := Int.mul_fdiv_add_fmod a b
  have hr : (0 ≤ a.fmod b ∧ a.fmod b < b) ∨ (b < a.fmod b ∧ a.fmod b ≤ 0) := by
    by_cases hp : 0 < b
    · exact .inl ⟨Int.fmod_nonneg_of_pos a hp, Int.fmod_lt_of_pos a hp⟩
    · have hn : b < 0 := by omega
      have z := Int.fmod_nonneg_of_pos (-a) (show 0 < -b by omega)
      have z2 := Int.fmod_lt_of_pos (-a) (show 0 < -b by omega)
      rw [Int.neg_fmod_neg] at z z2
      exact .inr ⟨by omega, by omega⟩
  have hq : NB (.int (a.fdiv b)) := by
    have hm : (a.fdiv b) * b = a - a.fmod b := by rw [Int.mul_comm]; omega
    show -1000000000 ≤ a.fdiv b ∧ a.fdiv b ≤ 1000000000
    generalize a.fdiv b = q at hm
    generalize a.fmod b = r at hm hr
    constructor
    · by_cases hp : 0 < b
      · by_cases hq : -1000000000 ≤ q
        · exact hq
        · have : q * b ≤ (-1000000001) * b := Int.mul_le_mul_of_nonneg_right (by omega) (by omega)
          have : (-1000000001) * b ≤ (-1000000001) * 1 := Int.mul_le_mul_of_nonpos_left (by omega) (by omega)
          omega
      · by_cases hq : -1000000000 ≤ q
        · exact hq
        · have : (-1000000001) * b ≤ q * b := Int.mul_le_mul_of_nonpos_right (by omega) (by omega)
          omega
    · by_cases hp : 0 < b
      · by_cases hq : q ≤ 1000000000
        · exact hq
        · have : 1000000001 * b ≤ q * b := Int.mul_le_mul_of_nonneg_right (by omega) (by omega)
          omega
      · by_cases hq : q ≤ 1000000000
        · exact hq
        · have : q * b ≤ 1000000001 * b := Int.mul_le_mul_of_nonpos_right (by omega) (by omega)
          omega
  refine ⟨hq, ⟨by omega, by omega⟩, ?_, ?_, ?_⟩
  · rw [Int.mul_comm]; exact e
  · split <;> split <;> omega
  · by_cases h : a.fmod b = 0
    · exact .inl h
    · refine .inr ?_
      rcases hr with h1 | h1
      · rw [decide_eq_false (by omega), decide_eq_false (by omega)]
      · rw [decide_eq_true (by omega), decide_eq_true (by omega)]

def opsV : List V := ops9.map V.str
def sp_ops_told : Sp := fun vs H Q _ => vs = [] ∧ RetL opsV H Q
theorem ok_ops_told (T : Txt K mg Z) : FnOk P w K mg base CX0 1 Z.f_ops_told Z.fd_ops_told [] sp_ops_told := by
  refine T.F_ops_told.ok sc_ops_told (fun vs H Q E h => ?_) (fun cdv AA outer s H vs Q E hr h => ?_)
  · obtain ⟨rfl, _⟩ := h
    rfl
  · obtain ⟨rfl, k⟩ := h
    refine ⟨_, (pss_one (ps_ret (pe_callTy call_list_of (by rfl) T.n_list (by decide +kernel) (pa_cons (pe_gcst rfl T.c_OPS) pa_nil)))), ?_⟩
    walk_at "ss"
    refine ⟨_, _, rfl, .inr (T.t_OPS _), fun l hl => ?_⟩
    exact k l _ hl (Ex.new hl) upd_same
def sp_value_l : Sp := fun vs H Q _ => ∃ (b : Addr), vs = [.ref b] ∧ BoxAt H b ∧ ∀ v H2, NB v → ExB b H H2 → BoxAt H2 b → Q v H2
theorem ok_value_l (T : Txt K mg Z) : FnOk P w K mg base CX0 2 Z.f_value_l Z.fd_value_l ["_law_box_here"] sp_value_l := by
  have G_take_l := ok_take_l (P := P) (w := w) (base := base) T
  refine T.F_value_l.ok sc_value_l (fun vs H Q E h => ?_) (fun cdv AA outer s H vs Q E hr h => ?_)
  · obtain ⟨b, rfl, _⟩ := h
    rfl
  · obtain ⟨b, rfl, hB, k⟩ := h
    refine ⟨_, (pss_cons (ps_set (i := 1) sc_value_l.nd rfl (Or.inl rfl) (pe_op op_pow pe_int pe_int))
      (pss_cons (ps_set (i := 2) sc_value_l.nd rfl (Or.inl rfl) (pe_lst (pa_cons pe_int (pa_cons pe_int (pa_cons pe_int (pa_cons (pe_un un_neg pe_int) (pa_cons (pv 1) (pa_cons (pe_op op_sub pe_int (pv 1)) (pa_cons (pe_op op_sub (pv 1) pe_int) (pa_cons (pe_op op_sub pe_int (pv 1)) (pa_cons pe_bl (pa_cons pe_bl (pa_cons pe_int (pa_cons (pe_un un_neg pe_int) pa_nil))))))))))))))
      (pss_cons (ps_set (i := 3) sc_value_l.nd rfl (Or.inl rfl) (pe_call G_take_l (hr.mono (by decide)) rfl T.g_take_l T.F_take_l.kp T.b_take_l .nil pass0 (pa_cons (pv 0) (pa_cons (pe_ix ix_list (pe_lst (pa_cons pe_int (pa_cons pe_int (pa_cons pe_int (pa_cons (pe_op op_add (pe_op op_pow pe_int pe_int) pe_int) pa_nil))))) (pe_call G_take_l (hr.mono (by decide)) rfl T.g_take_l T.F_take_l.kp T.b_take_l .nil pass0 (pa_cons (pv 0) (pa_cons pe_int pa_nil))) (fun _ _ => rfl)) pa_nil))))
      (pss_one (ps_ret (pe_ix ix_list (pe_op op_cat (pv 2) (pe_lst (pa_cons (pv 3) (pa_cons (pe_op op_sub pe_int (pv 3)) (pa_cons (pv 3) (pa_cons (pe_op op_sub pe_int (pv 3)) pa_nil)))))) (pe_call G_take_l (hr.mono (by decide)) rfl T.g_take_l T.F_take_l.kp T.b_take_l .nil pass0 (pa_cons (pv 0) (pa_cons pe_int pa_nil))) (fun _ _ => rfl))))))), ?_⟩
    walk_at "ss"
    refine c_I ⟨by decide, by decide, by decide⟩ ?_
    walk_at "ss"
    refine newL fun n1 H1 hn1 e1 h1 => ?_
    walk_at "ss"
    refine c_I ⟨by decide, by decide, by decide⟩ ?_
    walk_at "ss"
    refine newL fun n2 H2 hn2 e2 h2 => ?_
    walk_at "ss"
    have hB2 := (hB.ex e1).ex e2
    refine ⟨b, 4, rfl, hB2, by decide, by decide, fun d H3 d0 d1 x3 hB3 => ?_⟩
    walk_at "ss"
    have n2b : n2 ≠ b := box_ne hB2 h2 (by intro x y z q; cases q)
    obtain ⟨v, ha, hv⟩ := at_in (xs := [.int 12, .int 100, .int 40000, .int (10 ^ Int.toNat 9 + 1)]) d0 d1
    obtain ⟨m, rfl, m0, m1⟩ : ∃ m, v = .int m ∧ 0 < m ∧ m ≤ 1000000001 := by
      simp only [List.mem_cons, List.not_mem_nil, or_false] at hv
      rcases hv with rfl | rfl | rfl | rfl
      all_goals exact ⟨_, rfl, by decide, by decide⟩
    refine c_ixL (SqL.of (x3 _ _ n2b h2)) ha ?_
    walk_at "ss"
    refine ⟨b, m, rfl, hB3, m0, by omega, fun d2 H4 d20 d21 x4 hB4 => ?_⟩
    walk_at "ss"
    refine newL fun n3 H5 hn3 e5 h5 => ?_
    walk_at "ss"
    have n1b : n1 ≠ b := box_ne (hB.ex e1) h1 (by intro x y z q; cases q)
    have g1 := e5 _ _ (x4 _ _ n1b (x3 _ _ n1b (e2 _ _ h1)))
    refine c_cat g1 h5 fun n4 H6 hn4 e6 h6 => ?_
    walk_at "ss"
    refine ⟨b, 16, rfl, (hB4.ex e5).ex e6, by decide, by decide, fun d3 H7 d30 d31 x7 hB7 => ?_⟩
    walk_at "ss"
    have n4b : n4 ≠ b := fun q => by
      obtain ⟨_, _, _, _, q2⟩ := hB4.ex e5
      rw [q, q2] at hn4
      cases hn4
    obtain ⟨v, ha, hv⟩ := at_in (xs := [.int 0, .int 0, .int 1, .int (-1), .int (10 ^ Int.toNat 9), .int (0 - 10 ^ Int.toNat 9), .int (10 ^ Int.toNat 9 - 1), .int (1 - 10 ^ Int.toNat 9), .bl true, .bl false, .int 2, .int (-2), .int d2, .int (0 - d2), .int d2, .int (0 - d2)]) d30 d31
    refine c_ixL (SqL.of (x7 _ _ n4b h6)) ha ?_
    have nm : NB v := by
      simp only [List.mem_cons, List.not_mem_nil, or_false] at hv
      rcases hv with rfl | rfl | rfl | rfl | rfl | rfl | rfl | rfl | rfl | rfl | rfl | rfl | rfl | rfl | rfl | rfl
      all_goals first | trivial | exact ⟨by decide, by decide⟩ | exact ⟨by omega, by omega⟩
    walk_at "ss"
    refine k v H7 nm ?_ hB7
    exact (((((ExB.of e1).ex e2).trans x3).trans x4).ex (e5.trans e6)).trans x7
def sp_is_number_l (K : PySem.W.Frag) : Sp := sp_is_whole K
theorem u_num {K : PySem.W.Frag} {H : Hp} {Q : VK} {E : XK} {v : V} (h : NB v) (q : Q (.bl (isI v)) H) : sp_is_number_l K [v] H Q E := u_whole h q
theorem ok_is_number_l (T : Txt K mg Z) : FnOk P w K mg base CX0 1 Z.f_is_number_l Z.fd_is_number_l ["_law_thing"] (sp_is_number_l K) := by
  refine T.F_is_number_l.ok sc_is_number_l (fun vs H Q E h => ?_) (fun cdv AA outer s H vs Q E hr h => ?_)
  · obtain ⟨v, n, b1, b2, rfl, _⟩ := h
    rfl
  · obtain ⟨v, n, b1, b2, rfl, ty, h1, h2, k⟩ := h
    refine ⟨_, (pss_one (ps_ret (pe_and (pe_callB call_isi (by rfl) T.n_isinstance (by decide +kernel) (pa_cons (pv 0) (pa_cons (pe_bltn (v := .ty "int") (by rfl) T.n_int (by decide +kernel) rfl) pa_nil))) (pe_one (pe_not (pe_callB call_isi (by rfl) T.n_isinstance (by decide +kernel) (pa_cons (pv 0) (pa_cons (pe_bltn (v := .ty "bool") (by rfl) T.n_bool (by decide +kernel) rfl) pa_nil)))))))), ?_⟩
    walk_at "ss"
    refine isi ty h1 ?_
    walk_at "ss"
    refine if_cs (fun hb => ?_) (fun hb => ?_)
    · walk_at "ss"
      refine isi ty h2 ?_
      walk_at "ss"
      subst hb
      exact k
    · walk_at "ss"
      subst hb
      exact k
/-- isinstance(v, bool) of a value -/
theorem isi_bl {K : PySem.W.Frag} {H : Hp} {Q : VK} {v : V} (h : NB v) (q : Q (.bl (!isI v)) H) : rIsi K [v, .ty "bool"] H Q := by
  cases v with
  | int i => exact isi (ty_int i) kb_ib q
  | bl b => exact isi (ty_bl b) kb_bb q
  | _ => exact h.elim
def sp_kind_l : Sp := fun vs H Q _ => ∃ (op : Str) (a b : V), vs = [.str op, a, b] ∧ NB a ∧ NB b ∧ op ∈ ops9 ∧ Q (.bl (fitsV op a b)) H
theorem ok_kind_l (T : Txt K mg Z) : FnOk P w K mg base CX0 2 Z.f_kind_l Z.fd_kind_l ["_law_op", "_law_one", "_law_other"] sp_kind_l := by
  have G_is_number_l := ok_is_number_l (P := P) (w := w) (base := base) T
  refine T.F_kind_l.ok sc_kind_l (fun vs H Q E h => ?_) (fun cdv AA outer s H vs Q E hr h => ?_)
  · obtain ⟨op, a, b, rfl, _⟩ := h
    rfl
  · obtain ⟨op, a, b, rfl, na, nb, hop, k⟩ := h
    refine ⟨_, (pss_cons (ps_if (pt_cmpR op_eq (pv 0) pe_str (nomark _)) (pss_one (ps_ret (pe_cmpR op_eq (pe_call G_is_number_l (hr.mono (by decide)) rfl T.g_is_number_l T.F_is_number_l.kp T.b_is_number_l .nil pass0 (pa_cons (pv 1) pa_nil)) (pe_call G_is_number_l (hr.mono (by decide)) rfl T.g_is_number_l T.F_is_number_l.kp T.b_is_number_l .nil pass0 (pa_cons (pv 2) pa_nil)) (nomark _)))) pss_nil)
      (pss_cons (ps_if (PW.pt (pw_or (pt_cmpR op_eq (pv 0) pe_str (nomark _)) (pw_or1 (pt_cmpR op_eq (pv 0) pe_str (nomark _))))) (pss_one (ps_ret (pe_and (pe_callB call_isi (by rfl) T.n_isinstance (by decide +kernel) (pa_cons (pv 1) (pa_cons (pe_bltn (v := .ty "bool") (by rfl) T.n_bool (by decide +kernel) rfl) pa_nil))) (pe_one (pe_callB call_isi (by rfl) T.n_isinstance (by decide +kernel) (pa_cons (pv 2) (pa_cons (pe_bltn (v := .ty "bool") (by rfl) T.n_bool (by decide +kernel) rfl) pa_nil))))))) pss_nil)
      (pss_one (ps_ret (pe_and (pe_call G_is_number_l (hr.mono (by decide)) rfl T.g_is_number_l T.F_is_number_l.kp T.b_is_number_l .nil pass0 (pa_cons (pv 1) pa_nil)) (pe_one (pe_call G_is_number_l (hr.mono (by decide)) rfl T.g_is_number_l T.F_is_number_l.kp T.b_is_number_l .nil pass0 (pa_cons (pv 2) pa_nil)))))))), ?_⟩
    walk_at "ss"
    rw [dec_s]
    refine if_cs (fun h1 => ?_) (fun h1 => ?_)
    · rw [of_decide_eq_true h1, fits_eq] at k
      walk_at "ss"
      refine u_num na ?_
      walk_at "ss"
      refine u_num nb ?_
      walk_at "ss"
      rw [dec_bl]
      exact k
    have n1 := of_decide_eq_false h1
    have two : (op ∈ opsT ∧ (decide (op = "&") || decide (op = "|")) = true) ∨ (op ∈ opsN ∧ op ≠ "&" ∧ op ≠ "|") := by
      simp only [ops9, List.mem_cons, List.not_mem_nil, or_false] at hop
      rcases hop with rfl | rfl | rfl | rfl | rfl | rfl | rfl | rfl | rfl
      all_goals first | exact absurd rfl n1 | exact .inl ⟨by decide +kernel, by decide +kernel⟩ | exact .inr ⟨by decide +kernel, by decide +kernel, by decide +kernel⟩
    rcases two with ⟨ho, hd⟩ | ⟨ho, m1, m2⟩
    · rw [fits_tr ho] at k
      walk_at "ss"
      refine if_cs (fun _ => ?_) (fun hf => ?_)
      · walk_at "ss"
        refine isi_bl na ?_
        walk_at "ss"
        refine if_cs (fun hd => ?_) (fun hd => ?_)
        · walk_at "ss"
          refine isi_bl nb ?_
          walk_at "ss"
          rw [hd] at k
          exact k
        · walk_at "ss"
          rw [hd] at k
          exact k
      · walk_at "ss"
        rw [Bool.or_eq_true] at hd
        rw [dec_s] at hf
        have ho2 : op = "|" := by
          rcases hd with hd | hd
          · rw [hd] at hf; cases hf
          · exact of_decide_eq_true hd
        refine if_tt (str_eq ho2) ?_
        walk_at "ss"
        refine isi_bl na ?_
        walk_at "ss"
        refine if_cs (fun hd => ?_) (fun hd => ?_)
        · walk_at "ss"
          refine isi_bl nb ?_
          walk_at "ss"
          rw [hd] at k
          exact k
        · walk_at "ss"
          rw [hd] at k
          exact k
    · rw [fits_num ho] at k
      walk_at "ss"
      refine if_ff (str_ne m1) ?_
      walk_at "ss"
      refine if_ff (str_ne m2) ?_
      walk_at "ss"
      refine u_num na ?_
      walk_at "ss"
      refine if_cs (fun hd => ?_) (fun hd => ?_)
      · walk_at "ss"
        refine u_num nb ?_
        walk_at "ss"
        rw [hd] at k
        exact k
      · walk_at "ss"
        rw [hd] at k
        exact k

/-! ### the law's own sums -/
theorem emod_u {b r k : Int} (h1 : 0 ≤ r) (h2 : r < b) : (r + b * k) % b = r := by
  rw [Int.add_mul_emod_self_left, Int.emod_eq_of_lt h1 h2]
def absI (i : Int) : Int := if i < 0 then -i else i
def rest1 (a b : Int) : Int := if a < 0 then 0 - absI a % absI b else absI a % absI b
def rest2 (a b : Int) : Int := if rest1 a b ≠ 0 ∧ decide (rest1 a b < 0) ≠ decide (b < 0) then rest1 a b + b else rest1 a b
theorem neg_emod' {x b : Int} (hb : 0 < b) : (-x) % b = if x % b = 0 then 0 else b - x % b := by
  have e := Int.emod_add_mul_ediv x b
  have h1 := Int.emod_nonneg x (by omega : b ≠ 0)
  have h2 := Int.emod_lt_of_pos x hb
  by_cases h : x % b = 0
  · rw [if_pos h]
    have : -x = 0 + b * (-(x / b)) := by rw [Int.mul_neg]; omega
    rw [this]
    exact emod_u (Int.le_refl _) hb
  · rw [if_neg h]
    have : -x = (b - x % b) + b * (-(x / b) - 1) := by rw [Int.mul_sub, Int.mul_neg]; omega
    rw [this]
    exact emod_u (by omega) (by omega)
theorem rest2_is {a b : Int} (hb : b ≠ 0) : rest2 a b = a.fmod b := by
  have key : ∀ a b : Int, 0 < b → (rest2 a b = a % b) ∧ (rest2 a (-b) = -((-a) % b)) := by
    intro a b hb
    have e1 : absI b = b := by unfold absI; rw [if_neg (by omega)]
    have e2 : absI (-b) = b := by unfold absI; rw [if_pos (by omega)]; omega
    unfold rest2 rest1
    rw [e1, e2]
    by_cases ha : a < 0
    · have e3 : absI a = -a := by unfold absI; rw [if_pos ha]
      rw [e3, if_pos ha]
      have h1 := Int.emod_nonneg (-a) (by omega : b ≠ 0)
      have h2 := Int.emod_lt_of_pos (-a) hb
      have h3 := neg_emod' (x := -a) hb
      rw [Int.neg_neg] at h3
      rw [h3]
      by_cases hz : (-a) % b = 0
      · rw [hz]
        simp
      · rw [if_neg hz]
        have d1 : decide (0 - -a % b < 0) = true := decide_eq_true (by omega)
        have d2 : decide (b < 0) = false := decide_eq_false (by omega)
        have d3 : decide (-b < 0) = true := decide_eq_true (by omega)
        rw [d1, d2, d3]
        refine ⟨?_, ?_⟩
        · rw [if_pos ⟨by omega, by decide⟩]; omega
        · rw [if_neg fun q => q.2 rfl]; omega
    · have e3 : absI a = a := by unfold absI; rw [if_neg ha]
      rw [e3, if_neg ha]
      have h1 := Int.emod_nonneg a (by omega : b ≠ 0)
      have h2 := Int.emod_lt_of_pos a hb
      have h3 := neg_emod' (x := a) hb
      rw [h3]
      by_cases hz : a % b = 0
      · rw [hz]
        simp
      · rw [if_neg hz]
        have d1 : decide (a % b < 0) = false := decide_eq_false (by omega)
        have d2 : decide (b < 0) = false := decide_eq_false (by omega)
        have d3 : decide (-b < 0) = true := decide_eq_true (by omega)
        rw [d1, d2, d3]
        refine ⟨?_, ?_⟩
        · rw [if_neg fun q => q.2 rfl]
        · rw [if_pos ⟨hz, by decide⟩]; omega
  by_cases hp : 0 < b
  · rw [(key a b hp).1, Int.fmod_eq_emod_of_nonneg a (by omega)]
  · have h := (key a (-b) (by omega)).2
    rw [Int.neg_neg] at h
    rw [h, ← Int.fmod_eq_emod_of_nonneg (-a) (by omega : 0 ≤ -b)]
    have e := Int.neg_fmod_neg a b
    omega
theorem quot_is {a b : Int} (hb : b ≠ 0) : (if (decide (a - a.fmod b < 0) != decide (b < 0)) = true then 0 - absI (a - a.fmod b) / absI b else absI (a - a.fmod b) / absI b) = a.fdiv b := by
  have e := Int.mul_fdiv_add_fmod a b
  have hm : a - a.fmod b = a.fdiv b * b := by rw [Int.mul_comm]; omega
  rw [hm]
  generalize a.fdiv b = q
  by_cases hp : 0 < b
  · have e1 : absI b = b := by unfold absI; rw [if_neg (by omega)]
    have d2 : decide (b < 0) = false := decide_eq_false (by omega)
    rw [e1, d2]
    by_cases hq : q < 0
    · have hn : q * b < 0 := Int.mul_neg_of_neg_of_pos hq hp
      have e2 : absI (q * b) = (-q) * b := by unfold absI; rw [if_pos hn, Int.neg_mul]
      rw [e2, decide_eq_true hn, Int.mul_ediv_cancel _ hb, if_pos (by decide)]
      omega
    · have hn : ¬ q * b < 0 := by
        have := Int.mul_nonneg (show 0 ≤ q by omega) (show 0 ≤ b by omega)
        omega
      have e2 : absI (q * b) = q * b := by unfold absI; rw [if_neg hn]
      rw [e2, decide_eq_false hn, Int.mul_ediv_cancel _ hb, if_neg (by decide)]
  · have hn0 : b < 0 := by omega
    have e1 : absI b = -b := by unfold absI; rw [if_pos hn0]
    rw [e1, decide_eq_true hn0]
    by_cases hq : 0 < q
    · have hn : q * b < 0 := Int.mul_neg_of_pos_of_neg hq hn0
      have e2 : absI (q * b) = q * (-b) := by unfold absI; rw [if_pos hn, Int.mul_neg]
      rw [e2, decide_eq_true hn, Int.mul_ediv_cancel _ (by omega), if_neg (by decide)]
    · have hn : ¬ q * b < 0 := by
        have := Int.mul_nonneg_of_nonpos_of_nonpos (show q ≤ 0 by omega) (show b ≤ 0 by omega)
        omega
      have e2 : absI (q * b) = (-q) * (-b) := by unfold absI; rw [if_neg hn, Int.neg_mul_neg]
      rw [e2, decide_eq_false hn, Int.mul_ediv_cancel _ (by omega), if_pos (by decide)]
      omega
def sp_sum_l : Sp := fun vs H Q _ => ∃ (op : Str) (a b : Int), vs = [.str op, .int a, .int b] ∧ NB (.int a) ∧ NB (.int b) ∧ (op = "+" ∨ op = "-" ∨ op = "*" ∨ ((op = "/" ∨ op = "mod") ∧ b ≠ 0)) ∧ RetV (.int (numBy op a b)) H Q
theorem absI_pos {b : Int} (h : b ≠ 0) (hb : NB (.int b)) : 0 < absI b ∧ absI b < 1073741824 := by
  have : -1000000000 ≤ b ∧ b ≤ 1000000000 := hb
  unfold absI
  split <;> omega
theorem num_add {a b : Int} : numBy "+" a b = a + b := by unfold numBy; rw [if_pos rfl]
theorem num_sub {a b : Int} : numBy "-" a b = a - b := by unfold numBy; rw [if_neg (by decide +kernel), if_pos rfl]
theorem num_mul {a b : Int} : numBy "*" a b = a * b := by unfold numBy; rw [if_neg (by decide +kernel), if_neg (by decide +kernel), if_pos rfl]
theorem num_div {a b : Int} : numBy "/" a b = a.fdiv b := by unfold numBy; rw [if_neg (by decide +kernel), if_neg (by decide +kernel), if_neg (by decide +kernel), if_pos rfl]
theorem num_mod {a b : Int} : numBy "mod" a b = a.fmod b := by unfold numBy; rw [if_neg (by decide +kernel), if_neg (by decide +kernel), if_neg (by decide +kernel), if_neg (by decide +kernel)]
theorem ok_sum_l (T : Txt K mg Z) : FnOk P w K mg base CX0 1 Z.f_sum_l Z.fd_sum_l ["_law_op", "_law_one", "_law_other"] sp_sum_l := by
  refine T.F_sum_l.ok sc_sum_l (fun vs H Q E h => ?_) (fun cdv AA outer s H vs Q E hr h => ?_)
  · obtain ⟨op, a, b, rfl, _⟩ := h
    rfl
  · obtain ⟨op, a, b, rfl, na, nb, hop, k⟩ := h
    refine ⟨_, (pss_cons (ps_if (pt_cmpR op_eq (pv 0) pe_str (nomark _)) (pss_one (ps_ret (pe_op op_add (pv 1) (pv 2)))) pss_nil)
      (pss_cons (ps_if (pt_cmpR op_eq (pv 0) pe_str (nomark _)) (pss_one (ps_ret (pe_op op_add (pv 1) (pe_op op_sub pe_int (pv 2))))) pss_nil)
      (pss_cons (ps_if (pt_cmpR op_eq (pv 0) pe_str (nomark _)) (pss_one (ps_ret (pe_op op_mul (pv 1) (pv 2)))) pss_nil)
      (pss_cons (ps_set (i := 3) sc_sum_l.nd rfl (Or.inl rfl) (pe_op op_mod (pe_callB call_abs (by rfl) T.n_abs (by decide +kernel) (pa_cons (pv 1) pa_nil)) (pe_callB call_abs (by rfl) T.n_abs (by decide +kernel) (pa_cons (pv 2) pa_nil))))
      (Evl.pss_cut (ps_if (pt_cmpR op_lt (pv 1) pe_int (nomark _)) (pss_one (ps_set (i := 3) sc_sum_l.nd rfl (Or.inl rfl) (pe_op op_sub pe_int (pv 3)))) pss_nil)
      (Evl.pss_cut (ps_if (PW.pt (pw_and (pt_cmpR op_ne (pv 3) pe_int (nomark _)) (pw_and1 (pt_cmpR op_ne (pe_cmpR op_lt (pv 3) pe_int (nomark _)) (pe_cmpR op_lt (pv 2) pe_int (nomark _)) (nomark _))))) (pss_one (ps_set (i := 3) sc_sum_l.nd rfl (Or.inl rfl) (pe_op op_add (pv 3) (pv 2)))) pss_nil)
      (pss_cons (ps_if (pt_cmpR op_eq (pv 0) pe_str (nomark _)) (pss_one (ps_ret (pv 3))) pss_nil)
      (pss_cons (ps_set (i := 4) sc_sum_l.nd rfl (Or.inl rfl) (pe_op op_fdiv (pe_callB call_abs (by rfl) T.n_abs (by decide +kernel) (pa_cons (pe_op op_sub (pv 1) (pv 3)) pa_nil)) (pe_callB call_abs (by rfl) T.n_abs (by decide +kernel) (pa_cons (pv 2) pa_nil))))
      (pss_one (ps_ret (pe_ix ix_list (pe_lst (pa_cons (pv 4) (pa_cons (pe_op op_sub pe_int (pv 4)) pa_nil))) (pe_callTy call_int1 (by rfl) T.n_int (by decide +kernel) (pa_cons (pe_cmpR op_ne (pe_cmpR op_lt (pe_op op_sub (pv 1) (pv 3)) pe_int (nomark _)) (pe_cmpR op_lt (pv 2) pe_int (nomark _)) (nomark _)) pa_nil)) (fun _ _ => rfl)))))))))))), ?_⟩
    rcases hop with rfl | rfl | rfl | ⟨hop, hb0⟩
    · walk_at "ss"
      refine if_tt (str_eq rfl) ?_
      walk_at "ss"
      rw [num_add] at k
      exact k _ (Ex.refl _)
    · walk_at "ss"
      refine if_ff (str_ne (by decide +kernel)) ?_
      walk_at "ss"
      refine if_tt (str_eq rfl) ?_
      walk_at "ss"
      rw [num_sub] at k
      rw [show a + (0 - b) = a - b by omega]
      exact k _ (Ex.refl _)
    · walk_at "ss"
      refine if_ff (str_ne (by decide +kernel)) ?_
      walk_at "ss"
      refine if_ff (str_ne (by decide +kernel)) ?_
      walk_at "ss"
      refine if_tt (str_eq rfl) ?_
      walk_at "ss"
      refine c_I (mul_ok na) ?_
      rw [num_mul] at k
      exact k _ (Ex.refl _)
    · have n1 : op ≠ "+" := by rcases hop with rfl | rfl <;> decide +kernel
      have n2 : op ≠ "-" := by rcases hop with rfl | rfl <;> decide +kernel
      have n3 : op ≠ "*" := by rcases hop with rfl | rfl <;> decide +kernel
      walk_at "ss"
      refine if_ff (str_ne n1) ?_
      walk_at "ss"
      refine if_ff (str_ne n2) ?_
      walk_at "ss"
      refine if_ff (str_ne n3) ?_
      walk_at "ss"
      refine c_I (absI_pos hb0 nb).1 ?_
      walk_at "ss"
      refine c_cut (M := fun σ' H' => σ' = [some (.str op), some (.int a), some (.int b), some (.int (rest1 a b)), none] ∧ H' = H) ?_ ?_
      · walk_at "ss"
        refine if_cs (fun hc => ?_) (fun hc => ?_)
        · have er : rest1 a b = 0 - absI a % absI b := if_pos (of_decide_eq_true hc)
          walk_at "ss"
          exact ⟨by rw [er]; rfl, rfl⟩
        · have er : rest1 a b = absI a % absI b := if_neg (of_decide_eq_false hc)
          walk_at "ss"
          exact ⟨by rw [er]; rfl, rfl⟩
      rintro σ' H' ⟨rfl, rfl⟩
      refine c_cut (M := fun σ' H'' => σ' = [some (.str op), some (.int a), some (.int b), some (.int (rest2 a b)), none] ∧ H'' = H') ?_ ?_
      · walk_at "ss"
        by_cases h0 : rest1 a b = 0
        · have er : rest2 a b = rest1 a b := if_neg fun q => q.1 h0
          refine if_ff (by rw [h0]; rfl) ?_
          walk_at "ss"
          exact ⟨by rw [er], rfl⟩
        · refine if_tt (by rw [decide_eq_false fun q => h0 (V.int.inj q)]; rfl) ?_
          walk_at "ss"
          rw [dec_bl]
          refine if_cs (fun hc => ?_) (fun hc => ?_)
          · have er : rest2 a b = rest1 a b + b := if_pos ⟨h0, fun q => by rw [q] at hc; simp at hc⟩
            walk_at "ss"
            exact ⟨by rw [er]; rfl, rfl⟩
          · have er : rest2 a b = rest1 a b := if_neg fun q => q.2 (by simpa using hc)
            walk_at "ss"
            exact ⟨by rw [er], rfl⟩
      rintro σ' H'' ⟨rfl, rfl⟩
      rw [rest2_is hb0]
      walk_at "ss"
      rcases hop with rfl | rfl
      · refine if_ff (str_ne (by decide +kernel)) ?_
        walk_at "ss"
        refine c_I (absI_pos hb0 nb) ?_
        walk_at "ss"
        refine newL fun p H2 hp e2 h2 => ?_
        walk_at "ss"
        refine .inr ⟨_, rfl, ?_⟩
        walk_at "ss"
        rw [dec_bl]
        have hq := quot_is (a := a) hb0
        rw [num_div] at k
        refine c_ixL (SqL.of h2) (v := .int (a.fdiv b)) ?_ (k _ e2)
        rw [← hq]
        show atI [V.int (absI (a - a.fmod b) / absI b), V.int (0 - absI (a - a.fmod b) / absI b)] _ = _
        cases hc : (decide (a - a.fmod b < 0) != decide (b < 0)) with
        | true =>
          have hc' : (decide (a - a.fmod b < 0) == decide (b < 0)) = false := by simpa [bne] using hc
          rw [hc', if_pos rfl] <;> rfl
        | false =>
          have hc' : (decide (a - a.fmod b < 0) == decide (b < 0)) = true := by simpa [bne] using hc
          rw [hc', if_neg (by decide)] <;> rfl
      · refine if_tt (str_eq rfl) ?_
        walk_at "ss"
        rw [num_mod] at k
        exact k _ (Ex.refl _)

/-! ### the law's own truths -/
theorem op_subV {X : Cx} : OpR X (binaryOp .Sub) (fun x y H Q => (∃ i j, x = .int i ∧ y = .int j ∧ Q (.int (i - j)) H) ∨ ∃ p q, x = .bl p ∧ y = .bl q ∧ Q (.int (PyProof.Rows.b2i p - PyProof.Rows.b2i q)) H) := by
  refine OpR.or op_sub ?_
  intro pins s σ H x y v u Q I rx ry h
  obtain ⟨p, q, rfl, rfl, k⟩ := h
  cases rx
  cases ry
  exact PyProof.Rows.sub_bool ⟨.int _, H, I.tok _, ⟨_, rfl⟩, k⟩
def sp_truth_l : Sp := fun vs H Q _ => ∃ (op : Str) (a b : V), vs = [.str op, a, b] ∧ ((∃ i j, a = .int i ∧ b = .int j ∧ (op = "<" ∨ op = "=")) ∨ (∃ i j, a = .bl i ∧ b = .bl j ∧ op ≠ "<")) ∧ RetV (.bl (truthBy op a b)) H Q
theorem ok_truth_l (T : Txt K mg Z) : FnOk P w K mg base CX0 1 Z.f_truth_l Z.fd_truth_l ["_law_op", "_law_one", "_law_other"] sp_truth_l := by
  refine T.F_truth_l.ok sc_truth_l (fun vs H Q E h => ?_) (fun cdv AA outer s H vs Q E hr h => ?_)
  · obtain ⟨op, a, b, rfl, _⟩ := h
    rfl
  · obtain ⟨op, a, b, rfl, hop, k⟩ := h
    refine ⟨_, (pss_cons (ps_if (pt_cmpR op_eq (pv 0) pe_str (nomark _)) (pss_one (ps_ret (pe_cmpR op_gt (pe_op op_sub (pv 2) (pv 1)) pe_int (nomark _)))) pss_nil)
      (pss_cons (ps_if (pt_cmpR op_eq (pv 0) pe_str (nomark _)) (pss_one (ps_ret (pe_cmpR op_eq (pe_op op_subV (pv 1) (pv 2)) pe_int (nomark _)))) pss_nil)
      (pss_cons (ps_if (pt_cmpR op_eq (pv 0) pe_str (nomark _)) (pss_one (ps_ret (pe_ix ix_list (pe_lst (pa_cons pe_bl (pa_cons (pv 2) pa_nil))) (pe_callTy call_int1 (by rfl) T.n_int (by decide +kernel) (pa_cons (pv 1) pa_nil)) (fun _ _ => rfl)))) pss_nil)
      (pss_one (ps_ret (pe_ix ix_list (pe_lst (pa_cons (pv 2) (pa_cons pe_bl pa_nil))) (pe_callTy call_int1 (by rfl) T.n_int (by decide +kernel) (pa_cons (pv 1) pa_nil)) (fun _ _ => rfl))))))), ?_⟩
    rcases hop with ⟨i, j, rfl, rfl, hop⟩ | ⟨i, j, rfl, rfl, hop⟩
    · dsimp only [truthBy] at k
      walk_at "ss"
      rw [dec_s]
      refine if_cs (fun h1 => ?_) (fun h1 => ?_)
      · rw [if_pos (of_decide_eq_true h1)] at k
        walk_at "ss"
        have e : decide (0 < j - i) = decide (i < j) := by
          by_cases q : i < j
          · rw [decide_eq_true q, decide_eq_true (by omega)]
          · rw [decide_eq_false q, decide_eq_false (by omega)]
        rw [e]
        exact k _ (Ex.refl _)
      rw [if_neg (of_decide_eq_false h1)] at k
      have ho : op = "=" := by
        rcases hop with e | e
        · exact absurd e (of_decide_eq_false h1)
        · exact e
      walk_at "ss"
      refine if_tt (str_eq ho) ?_
      walk_at "ss"
      refine .inl ⟨_, _, rfl, rfl, ?_⟩
      walk_at "ss"
      have e : decide (V.int (i - j) = V.int 0) = decide (i = j) := by
        by_cases q : i = j
        · rw [decide_eq_true q, decide_eq_true (by rw [q, Int.sub_self])]
        · rw [decide_eq_false q, decide_eq_false fun z => q (by have := V.int.inj z; omega)]
      rw [e]
      exact k _ (Ex.refl _)
    · dsimp only [truthBy] at k
      walk_at "ss"
      refine if_ff (str_ne hop) ?_
      walk_at "ss"
      rw [dec_s]
      refine if_cs (fun h1 => ?_) (fun h1 => ?_)
      · rw [if_pos (of_decide_eq_true h1)] at k
        walk_at "ss"
        refine .inr ⟨_, _, rfl, rfl, ?_⟩
        walk_at "ss"
        have e : decide (V.int (PyProof.Rows.b2i i - PyProof.Rows.b2i j) = V.int 0) = decide (i = j) := by cases i <;> cases j <;> decide
        rw [e]
        exact k _ (Ex.refl _)
      rw [if_neg (of_decide_eq_false h1)] at k
      walk_at "ss"
      rw [dec_s]
      refine if_cs (fun h2 => ?_) (fun h2 => ?_)
      · rw [if_pos (of_decide_eq_true h2)] at k
        walk_at "ss"
        refine newL fun p H2 hp e2 h2 => ?_
        walk_at "ss"
        refine .inr ⟨_, rfl, ?_⟩
        walk_at "ss"
        refine c_ixL (SqL.of h2) (v := .bl (i && j)) ?_ (k _ e2)
        cases i <;> rfl
      · rw [if_neg (of_decide_eq_false h2)] at k
        walk_at "ss"
        refine newL fun p H2 hp e2 h2 => ?_
        walk_at "ss"
        refine .inr ⟨_, rfl, ?_⟩
        walk_at "ss"
        refine c_ixL (SqL.of h2) (v := .bl (i || j)) ?_ (k _ e2)
        cases i <;> rfl

theorem kb_tt : kitB "tuple" "tuple" = some true := by decide +kernel
theorem ok_g : okV (.str "great") = true := by decide +kernel
theorem reck_len {op : Str} {a b : V} : (reck op a b).length = 2 := by
  unfold reck
  split
  · rfl
  · split
    · rfl
    · split
      · rfl
      · unfold numRes
        split <;> rfl
theorem ok_nb {v : V} (h : NB v) : okV v = true := by
  cases v <;> first | rfl | exact h.elim
def sp_right_l : Sp := fun vs H Q _ => ∃ (op : Str) (a b : V) (p : Addr), vs = [.str op, a, b, .ref p] ∧ NB a ∧ NB b ∧ op ∈ ops9 ∧ H p = some (.tup (reck op a b)) ∧ RetV (.bl true) H Q
theorem ok_right_l (T : Txt K mg Z) : FnOk P w K mg base CX0 3 Z.f_right_l Z.fd_right_l ["_law_op", "_law_one", "_law_other", "_law_found"] sp_right_l := by
  have G_is_number_l := ok_is_number_l (P := P) (w := w) (base := base) T
  have G_kind_l := ok_kind_l (P := P) (w := w) (base := base) T
  have G_sum_l := ok_sum_l (P := P) (w := w) (base := base) T
  have G_truth_l := ok_truth_l (P := P) (w := w) (base := base) T
  refine T.F_right_l.ok sc_right_l (fun vs H Q E h => ?_) (fun cdv AA outer s H vs Q E hr h => ?_)
  · obtain ⟨op, a, b, p, rfl, _⟩ := h
    rfl
  · obtain ⟨op, a, b, p, rfl, na, nb, hop, hp, k⟩ := h
    refine ⟨_, (pss_cons (ps_if (PW.pt (pw_or (pt_not (pt_val (pe_callB call_isi (by rfl) T.n_isinstance (by decide +kernel) (pa_cons (pv 3) (pa_cons (pe_bltn (v := .ty "tuple") (by rfl) T.n_tuple (by decide +kernel) rfl) pa_nil))))) (pw_or1 (pt_cmpR op_ne (pe_callB call_len_seq (by rfl) T.n_len (by decide +kernel) (pa_cons (pv 3) pa_nil)) pe_int (nomark _))))) (pss_one (ps_ret pe_bl)) pss_nil)
      (Evl.pss_cut (ps_if (pt_not (pt_val (pe_call G_kind_l (hr.mono (by decide)) rfl T.g_kind_l T.F_kind_l.kp T.b_kind_l .nil pass0 (pa_cons (pv 0) (pa_cons (pv 1) (pa_cons (pv 2) pa_nil)))))) (pss_one (ps_ret (pe_cmpR (op_eqD hr.units) (pv 3) (pe_tup (pa_cons pe_non (pa_cons pe_str pa_nil))) (nomark _)))) pss_nil)
      (Evl.pss_cut (ps_if (PW.pt (pw_and (pt_cmpR (op_eqD hr.units) (pv 2) pe_int (nomark _)) (pw_and1 (PW.pt (pw_or (pt_cmpR op_eq (pv 0) pe_str (nomark _)) (pw_or1 (pt_cmpR op_eq (pv 0) pe_str (nomark _)))))))) (pss_one (ps_ret (pe_cmpR (op_eqD hr.units) (pv 3) (pe_tup (pa_cons pe_non (pa_cons pe_str pa_nil))) (nomark _)))) pss_nil)
      (pss_cons (ps_if (pt_cmpR op_in_seq (pv 0) (pe_lst (pa_cons pe_str (pa_cons pe_str (pa_cons pe_str (pa_cons pe_str pa_nil))))) (by rfl)) (pss_one (ps_ret (pe_and (pe_cmpR op_isN (pe_ix ix_tup (pv 3) pe_int (fun _ _ => rfl)) pe_non (nomark _)) (pe_and (pe_callB call_isi (by rfl) T.n_isinstance (by decide +kernel) (pa_cons (pe_ix ix_tup (pv 3) pe_int (fun _ _ => rfl)) (pa_cons (pe_bltn (v := .ty "bool") (by rfl) T.n_bool (by decide +kernel) rfl) pa_nil))) (pe_one (pe_cmpR op_eq (pe_ix ix_tup (pv 3) pe_int (fun _ _ => rfl)) (pe_call G_truth_l (hr.mono (by decide)) rfl T.g_truth_l T.F_truth_l.kp T.b_truth_l .nil pass0 (pa_cons (pv 0) (pa_cons (pv 1) (pa_cons (pv 2) pa_nil)))) (nomark _))))))) pss_nil)
      (pss_cons (ps_set (i := 4) sc_right_l.nd rfl (Or.inl rfl) (pe_call G_sum_l (hr.mono (by decide)) rfl T.g_sum_l T.F_sum_l.kp T.b_sum_l .nil pass0 (pa_cons (pv 0) (pa_cons (pv 1) (pa_cons (pv 2) pa_nil)))))
      (pss_cons (ps_if (pt_cmpR op_gt (pe_callB call_abs (by rfl) T.n_abs (by decide +kernel) (pa_cons (pv 4) pa_nil)) (pe_op op_pow pe_int pe_int) (nomark _)) (pss_one (ps_ret (pe_cmpR (op_eqD hr.units) (pv 3) (pe_tup (pa_cons pe_non (pa_cons pe_str pa_nil))) (nomark _)))) pss_nil)
      (pss_one (ps_ret (pe_and (pe_cmpR op_isN (pe_ix ix_tup (pv 3) pe_int (fun _ _ => rfl)) pe_non (nomark _)) (pe_and (pe_call G_is_number_l (hr.mono (by decide)) rfl T.g_is_number_l T.F_is_number_l.kp T.b_is_number_l .nil pass0 (pa_cons (pe_ix ix_tup (pv 3) pe_int (fun _ _ => rfl)) pa_nil)) (pe_one (pe_cmpR op_eq (pe_ix ix_tup (pv 3) pe_int (fun _ _ => rfl)) (pv 4) (nomark _))))))))))))), ?_⟩
    walk_at "ss"
    refine isi (ty_tup hp) kb_tt ?_
    walk_at "ss"
    refine ⟨_, _, rfl, .inr (SqT.of hp), ?_⟩
    rw [reck_len]
    walk_at "ss"
    refine if_ff rfl ?_
    walk_at "ss"
    refine c_cut (M := fun σ' H' => fitsV op a b = true ∧ σ' = [some (.str op), some a, some b, some (.ref p), none] ∧ H' = H) ?_ ?_
    · walk_at "ss"
      refine ⟨_, _, _, rfl, na, nb, hop, ?_⟩
      cases hf : fitsV op a b with
      | false =>
        rw [reck_kind hf] at hp
        walk_at "ss"
        refine newT fun p2 H2 hp2 e2 h2 => ?_
        refine c_eqT (SqT.of (e2 _ _ hp)) (SqT.of h2) (by decide +kernel) (by decide +kernel) ?_
        rw [eqL_refl (by decide +kernel)]
        exact k _ e2
      | true =>
        walk_at "ss"
        exact rfl
    rintro σ' H' ⟨hf, rfl, rfl⟩
    refine c_cut (M := fun σ' H'' => ¬ (inV (.str op) [.str "/", .str "mod"] = true ∧ b = .int 0) ∧ σ' = [some (.str op), some a, some b, some (.ref p), none] ∧ H'' = H') ?_ ?_
    · walk_at "ss"
      refine c_eqF (ok_nb nb) rfl ?_
      walk_at "ss"
      by_cases hm : op = "/" ∨ op = "mod"
      · have hm1 : inV (.str op) [.str "/", .str "mod"] = true := by rcases hm with rfl | rfl <;> decide +kernel
        rw [fits_num (ops_mod hop hm1).1] at hf
        obtain ⟨i, j, rfl, rfl⟩ := ints_of hf
        by_cases hj : j = 0
        · subst hj
          refine if_tt rfl ?_
          have go : ∀ (c : Bool) (A B : Prop), (decide (op = "/") = c) → (c = false → op = "mod") → True := fun _ _ _ _ _ => trivial
          walk_at "ss"
          rw [reck_nought hm] at hp
          rcases hm with rfl | rfl
          · refine if_tt (str_eq rfl) ?_
            walk_at "ss"
            refine newT fun p2 H2 hp2 e2 h2 => ?_
            refine c_eqT (SqT.of (e2 _ _ hp)) (SqT.of h2) (by decide +kernel) (by decide +kernel) ?_
            rw [eqL_refl (by decide +kernel)]
            exact k _ e2
          · refine if_ff (str_ne (by decide +kernel)) ?_
            walk_at "ss"
            refine if_tt (str_eq rfl) ?_
            walk_at "ss"
            refine newT fun p2 H2 hp2 e2 h2 => ?_
            refine c_eqT (SqT.of (e2 _ _ hp)) (SqT.of h2) (by decide +kernel) (by decide +kernel) ?_
            rw [eqL_refl (by decide +kernel)]
            exact k _ e2
        · refine if_ff (by simpa [eqV] using hj) ?_
          walk_at "ss"
          exact ⟨fun q => hj (V.int.inj q.2), rfl, rfl⟩
      · have m1 : op ≠ "/" := fun q => hm (.inl q)
        have m2 : op ≠ "mod" := fun q => hm (.inr q)
        have nm : ¬ (inV (.str op) [.str "/", .str "mod"] = true ∧ b = .int 0) := fun q => by
          have hh := q.1
          simp only [inV, List.any_cons, List.any_nil, Bool.or_false, eqV, Bool.or_eq_true, beq_iff_eq] at hh
          rcases hh with hh | hh
          · exact m1 hh.symm
          · exact m2 hh.symm
        refine if_cs (fun _ => ?_) (fun _ => ?_)
        · walk_at "ss"
          refine if_ff (str_ne m1) ?_
          walk_at "ss"
          refine if_ff (str_ne m2) ?_
          walk_at "ss"
          exact ⟨nm, rfl, rfl⟩
        · walk_at "ss"
          exact ⟨nm, rfl, rfl⟩
    rintro σ' H'' ⟨nm, rfl, rfl⟩
    walk_at "ss"
    refine newL fun p2 H2 hp2 e2 h2 => ?_
    refine c_in (.inl (SqL.of h2)) rfl rfl ?_
    refine ⟨_, rfl, if_cs (fun c2 => ?_) (fun c2 => ?_)⟩
    · have er : reck op a b = [.bl (truthBy op a b), .non] := by
        unfold reck
        rw [if_neg (by rw [hf]; decide), if_neg nm, if_pos c2]
      rw [er] at hp
      walk_at "ss"
      refine c_ixT (SqT.of (e2 _ _ hp)) (v := .non) rfl ?_
      walk_at "ss"
      refine if_tt rfl ?_
      walk_at "ss"
      refine c_ixT (SqT.of (e2 _ _ hp)) (v := .bl (truthBy op a b)) rfl ?_
      walk_at "ss"
      refine isi (ty_bl _) kb_bb ?_
      walk_at "ss"
      refine c_ixT (SqT.of (e2 _ _ hp)) (v := .bl (truthBy op a b)) rfl ?_
      walk_at "ss"
      refine ⟨_, _, _, rfl, ?_, fun H3 e3 => ?_⟩
      · rcases ops_tru hop c2 with rfl | rfl | ⟨ho, hn⟩
        · rw [fits_num (by decide +kernel)] at hf
          obtain ⟨i, j, rfl, rfl⟩ := ints_of hf
          exact .inl ⟨_, _, rfl, rfl, .inl rfl⟩
        · rw [fits_eq] at hf
          cases hi : isI a with
          | true =>
            rw [hi] at hf
            obtain ⟨i, j, rfl, rfl⟩ := ints_of (a := a) (b := b) (by rw [hi, ← beq_iff_eq.mp hf]; rfl)
            exact .inl ⟨_, _, rfl, rfl, .inr rfl⟩
          | false =>
            rw [hi] at hf
            obtain ⟨i, j, rfl, rfl⟩ := bls_of na nb (by rw [hi, ← beq_iff_eq.mp hf]; rfl)
            exact .inr ⟨_, _, rfl, rfl, by decide +kernel⟩
        · rw [fits_tr ho] at hf
          obtain ⟨i, j, rfl, rfl⟩ := bls_of na nb hf
          exact .inr ⟨_, _, rfl, rfl, hn⟩
      · walk_at "ss"
        rw [decide_eq_true rfl]
        exact k _ (e2.trans e3)
    · have hN : op ∈ opsN ∧ (op = "+" ∨ op = "-" ∨ op = "*" ∨ op = "/" ∨ op = "mod") := by
        simp only [ops9, List.mem_cons, List.not_mem_nil, or_false] at hop
        rcases hop with rfl | rfl | rfl | rfl | rfl | rfl | rfl | rfl | rfl
        all_goals first | exact absurd c2 (by decide +kernel) | exact ⟨by decide +kernel, .inl rfl⟩ | exact ⟨by decide +kernel, .inr (.inl rfl)⟩ | exact ⟨by decide +kernel, .inr (.inr (.inl rfl))⟩ | exact ⟨by decide +kernel, .inr (.inr (.inr (.inl rfl)))⟩ | exact ⟨by decide +kernel, .inr (.inr (.inr (.inr rfl)))⟩
      rw [fits_num hN.1] at hf
      obtain ⟨i, j, rfl, rfl⟩ := ints_of hf
      rw [reck_num hN.1 nm c2] at hp
      walk_at "ss"
      refine ⟨_, _, _, rfl, na, nb, ?_, fun H3 e3 => ?_⟩
      · have hz : (op = "/" ∨ op = "mod") → j ≠ 0 := fun h0 hj => nm ⟨by rcases h0 with rfl | rfl <;> decide +kernel, by rw [hj]⟩
        rcases hN.2 with e | e | e | e | e
        · exact .inl e
        · exact .inr (.inl e)
        · exact .inr (.inr (.inl e))
        · exact .inr (.inr (.inr ⟨.inl e, hz (.inl e)⟩))
        · exact .inr (.inr (.inr ⟨.inr e, hz (.inr e)⟩))
      generalize numBy op i j = n at hp
      walk_at "ss"
      refine c_I ⟨by decide, by decide, by decide⟩ ?_
      walk_at "ss"
      rcases numRes_cs n with ⟨hn, nn⟩ | hn
      · rw [hn] at hp
        have n1 : -1000000000 ≤ n ∧ n ≤ 1000000000 := nn
        refine if_ff (decide_eq_false ?_) ?_
        · show ¬ (1000000000 : Int) < _
          split <;> omega
        walk_at "ss"
        refine c_ixT (SqT.of (e3 _ _ (e2 _ _ hp))) (v := .non) rfl ?_
        walk_at "ss"
        refine if_tt rfl ?_
        walk_at "ss"
        refine c_ixT (SqT.of (e3 _ _ (e2 _ _ hp))) (v := .int n) rfl ?_
        walk_at "ss"
        refine u_num nn ?_
        walk_at "ss"
        refine if_tt rfl ?_
        walk_at "ss"
        refine c_ixT (SqT.of (e3 _ _ (e2 _ _ hp))) (v := .int n) rfl ?_
        walk_at "ss"
        rw [decide_eq_true rfl]
        exact k _ (e2.trans e3)
      · rw [hn] at hp
        have n1 : ¬ (-1000000000 ≤ n ∧ n ≤ 1000000000) := fun q => by
          rw [numRes_in q] at hn
          cases hn
        refine if_tt (decide_eq_true ?_) ?_
        · show (1000000000 : Int) < _
          split <;> omega
        walk_at "ss"
        refine newT fun p4 H4 hp4 e4 h4 => ?_
        refine c_eqT (SqT.of (e4 _ _ (e3 _ _ (e2 _ _ hp)))) (SqT.of h4) (by decide +kernel) (by decide +kernel) ?_
        rw [eqL_refl (by decide +kernel)]
        exact k _ ((e2.trans e3).trans e4)

theorem mem_cutV {xs : List V} {lo hi : Option Int} {x : V} (h : x ∈ cutV xs lo hi) : x ∈ xs := List.mem_of_mem_drop (List.mem_of_mem_take h)
theorem ok_ops : opsV.all okV = true := by decide +kernel
theorem ops_mem {z : V} (h : z ∈ opsV) : ∃ op : Str, z = .str op ∧ op ∈ ops9 := by
  obtain ⟨op, ho, rfl⟩ := List.mem_map.mp h
  exact ⟨op, rfl, ho⟩
def sp_law (K : PySem.W.Frag) : Sp := fun vs H Q _ => ∃ (a : Addr) (ns : List Int), vs = [.ref a] ∧ SqL K H a (ns.map V.int) ∧ ns.length ≤ 63 ∧ ∀ H', Q (.bl true) H'
theorem ok_law (T : Txt K mg Z) : FnOk P w K mg base CX0 5 Z.f_law Z.fd_law ["_law_script"] (sp_law K) := by
  have G_ops_told := ok_ops_told (P := P) (w := w) (base := base) T
  have G_reckoned := ok_reckoned (P := P) (w := w) (base := base) T
  have G_cell_at_l := ok_cell_at_l (P := P) (w := w) (base := base) T
  have G_box_l := ok_box_l (P := P) (w := w) (base := base) T
  have G_take_l := ok_take_l (P := P) (w := w) (base := base) T
  have G_value_l := ok_value_l (P := P) (w := w) (base := base) T
  have G_right_l := ok_right_l (P := P) (w := w) (base := base) T
  refine T.F_law.ok sc_law (fun vs H Q E h => ?_) (fun cdv AA outer s H vs Q E hr h => ?_)
  · obtain ⟨a, ns, rfl, _⟩ := h
    rfl
  · obtain ⟨a, ns, rfl, hS, hl, k⟩ := h
    refine ⟨_, (pss_cons (ps_set (i := 1) sc_law.nd rfl (Or.inl rfl) (pe_call0 G_ops_told (hr.mono (by decide)) rfl T.g_ops_told T.F_ops_told.kp T.b_ops_told .nil pass0))
      (pss_cons (ps_if (pt_cmpR (op_neD hr.units) (pv 1) (pe_lst (pa_cons pe_str (pa_cons pe_str (pa_cons pe_str (pa_cons pe_str (pa_cons pe_str (pa_cons pe_str (pa_cons pe_str (pa_cons pe_str (pa_cons pe_str pa_nil)))))))))) (nomark _)) (pss_one (ps_ret pe_bl)) pss_nil)
      (pss_cons (ps_expr (pe_bm PySem.F.plainAttrs_list PySem.F.slot_list_append PySem.F.type_list_append mt_append (pv 1) (pa_cons pe_str pa_nil)))
      (pss_cons (ps_for PassesOwn.never rfl (pi_range1 (by rfl) T.n_range (pa_cons (pe_callB (call_max2 rfl) (by rfl) T.n_max (by decide +kernel) (pa_cons pe_int (pa_cons (pe_callB (call_min2 rfl) (by rfl) T.n_min (by decide +kernel) (pa_cons pe_int (pa_cons (pe_callB call_len_seq (by rfl) T.n_len (by decide +kernel) (pa_cons (pv 0) pa_nil)) pa_nil))) pa_nil))) pa_nil)) (pg_name (i := 2) sc_law.nd rfl (Or.inl rfl)) (pss_cons (ps_set (i := 3) sc_law.nd rfl (Or.inl rfl) (pe_call G_box_l (hr.mono (by decide)) rfl T.g_box_l T.F_box_l.kp T.b_box_l .nil pass0 (pa_cons (pe_call G_cell_at_l (hr.mono (by decide)) rfl T.g_cell_at_l T.F_cell_at_l.kp T.b_cell_at_l .nil pass0 (pa_cons (pv 0) (pa_cons (pv 2) pa_nil))) pa_nil)))
      (pss_cons (ps_set (i := 4) sc_law.nd rfl (Or.inl rfl) (pe_call G_value_l (hr.mono (by decide)) rfl T.g_value_l T.F_value_l.kp T.b_value_l .nil pass0 (pa_cons (pv 3) pa_nil)))
      (pss_cons (ps_set (i := 5) sc_law.nd rfl (Or.inl rfl) (pe_call G_value_l (hr.mono (by decide)) rfl T.g_value_l T.F_value_l.kp T.b_value_l .nil pass0 (pa_cons (pv 3) pa_nil)))
      (pss_cons (ps_set (i := 6) sc_law.nd rfl (Or.inl rfl) (pe_call G_take_l (hr.mono (by decide)) rfl T.g_take_l T.F_take_l.kp T.b_take_l .nil pass0 (pa_cons (pv 3) (pa_cons pe_int pa_nil))))
      (pss_one (ps_for PassesOwn.never rfl (pi_list (pe_slice sl_list (pe_op op_cat (pe_call0 G_ops_told (hr.mono (by decide)) rfl T.g_ops_told T.F_ops_told.kp T.b_ops_told .nil pass0) (pe_call0 G_ops_told (hr.mono (by decide)) rfl T.g_ops_told T.F_ops_told.kp T.b_ops_told .nil pass0)) (po_some (pv 6)) (po_some (pe_op op_add (pv 6) pe_int)))) (pg_name (i := 7) sc_law.nd rfl (Or.inl rfl)) (pss_one (ps_for PassesOwn.never rfl (pi_list (pe_lst (pa_cons (pe_tup (pa_cons (pv 4) (pa_cons (pv 5) pa_nil))) (pa_cons (pe_tup (pa_cons (pv 5) (pa_cons (pv 4) pa_nil))) (pa_cons (pe_tup (pa_cons (pv 4) (pa_cons (pv 4) pa_nil))) (pa_cons (pe_tup (pa_cons (pv 4) (pa_cons (pv 5) pa_nil))) pa_nil)))))) (pg_name (i := 8) sc_law.nd rfl (Or.inl rfl)) (pss_one (ps_if (pt_not (pt_val (pe_call G_right_l (hr.mono (by decide)) rfl T.g_right_l T.F_right_l.kp T.b_right_l .nil pass0 (pa_cons (pv 7) (pa_cons (pe_ix ix_tup (pv 8) pe_int (fun _ _ => rfl)) (pa_cons (pe_ix ix_tup (pv 8) pe_int (fun _ _ => rfl)) (pa_cons (pe_call G_reckoned (hr.mono (by decide)) rfl T.g_reckoned T.F_reckoned.kp T.b_reckoned .nil pass0 (pa_cons (pv 7) (pa_cons (pe_ix ix_tup (pv 8) pe_int (fun _ _ => rfl)) (pa_cons (pe_ix ix_tup (pv 8) pe_int (fun _ _ => rfl)) pa_nil)))) pa_nil))))))) (pss_one (ps_ret pe_bl)) pss_nil)))))))))))
      (pss_one (ps_ret (pe_cmpR op_eq (pe_callB call_len_seq (by rfl) T.n_len (by decide +kernel) (pa_cons (pe_call0 G_ops_told (hr.mono (by decide)) rfl T.g_ops_told T.F_ops_told.kp T.b_ops_told .nil pass0) pa_nil)) pe_int (nomark _)))))))), ?_⟩
    walk_at "ss"
    refine ⟨rfl, fun p1 H1 hp1 e1 h1 => ?_⟩
    walk_at "ss"
    refine newL fun p2 H2 hp2 e2 h2 => ?_
    refine c_neLs (SqL.of (e2 _ _ h1)) (SqL.of h2) ok_ops (by decide +kernel) ?_
    refine ⟨_, rfl, if_ff (by decide +kernel) ?_⟩
    walk_at "ss"
    refine ⟨.inl ⟨rfl, _, SqL.of (e2 _ _ h1)⟩, ?_⟩
    walk_at "ss"
    refine ⟨p1, _, _, rfl, rfl, e2 _ _ h1, by decide +kernel, ?_⟩
    walk_at "ss"
    generalize hH3 : upd H2 p1 (.lst (opsV ++ [.str "x"])) = H3
    have e3 : Ex H H3 := by
      rw [← hH3]
      exact Ex.mut (e1.trans e2) hp1
    refine ⟨_, _, rfl, .inl (ex_l e3 hS), ?_⟩
    walk_at "ss"
    refine ⟨_, _, rfl, ?_⟩
    walk_at "ss"
    refine ⟨_, _, rfl, ?_⟩
    walk_at "ss"
    refine ⟨by split <;> split <;> omega, by split <;> split <;> omega, ?_⟩
    refine forR (fun i σ' H' => (∃ v1 v2 v3 v4 v5 v6 v7 v8, σ' = [some (.ref a), v1, v2, v3, v4, v5, v6, v7, v8]) ∧ Ex H H') ⟨⟨_, _, _, _, _, _, _, _, rfl⟩, e3⟩ ?_ ?_
    · rintro i σ' H' hi ⟨⟨v1, v2, v3, v4, v5, v6, v7, v8, rfl⟩, e⟩
      walk_at "ss"
      refine ⟨_, _, _, rfl, ex_l e hS, by omega, fun n => ?_⟩
      walk_at "ss"
      refine ⟨_, rfl, fun b G1 hb f1 hB => ?_⟩
      walk_at "ss"
      refine ⟨_, rfl, hB, fun x G2 nx x2 hB2 => ?_⟩
      walk_at "ss"
      refine ⟨_, rfl, hB2, fun y G3 ny x3 hB3 => ?_⟩
      walk_at "ss"
      refine ⟨_, _, rfl, hB3, by decide, by decide, fun d G4 d0 d1 x4 hB4 => ?_⟩
      have f4 : Ex H' G4 := ExB.tot f1 hb ((x2.trans x3).trans x4)
      walk_at "ss"
      refine ⟨rfl, fun q1 G5 hq1 f5 g5 => ?_⟩
      walk_at "ss"
      refine ⟨rfl, fun q2 G6 hq2 f6 g6 => ?_⟩
      walk_at "ss"
      refine c_cat (f6 _ _ g5) g6 (fun q3 G7 hq3 f7 g7 => ?_) (by decide +kernel)
      walk_at "ss"
      refine ⟨_, _, rfl, SqL.of g7, fun q4 hq4 => ?_⟩
      generalize hxs : cutV (opsV ++ opsV) (some d) (some (d + 9)) = xs
      have hmem : ∀ z ∈ xs, ∃ op : Str, z = .str op ∧ op ∈ ops9 := fun z hz => by
        rw [← hxs] at hz
        rcases List.mem_append.mp (mem_cutV hz) with h | h
        · exact ops_mem h
        · exact ops_mem h
      generalize hG8 : upd G7 q4 (.lst xs) = G8
      have g8 : G8 q4 = some (.lst xs) := by rw [← hG8, upd_same]
      have f8 : Ex G7 G8 := by rw [← hG8]; exact Ex.new hq4
      have f48 : Ex H' G8 := (((f4.trans f5).trans f6).trans f7).trans f8
      walk_at "ss"
      refine ⟨⟨_, SqL.of g8⟩, forL (xs := xs) (fun m σ' H' => (∃ v7 v8, σ' = [some (.ref a), v1, some (.int (i : Int)), some (.ref b), some x, some y, some (.int d), v7, v8]) ∧ Ex G8 H') ⟨⟨_, _, rfl⟩, Ex.refl _⟩ (fun i σ' H' _ p => SqL.of (p.2 _ _ g8)) ?_ ?_⟩
      · rintro j z σ' H'' hj ⟨⟨v7, v8, rfl⟩, eL⟩
        obtain ⟨op, rfl, hop⟩ := hmem z (List.mem_of_getElem? hj)
        walk_at "ss"
        refine newT fun t1 J1 _ l1 m1 => ?_
        walk_at "ss"
        refine newT fun t2 J2 _ l2 m2 => ?_
        walk_at "ss"
        refine newT fun t3 J3 _ l3 m3 => ?_
        walk_at "ss"
        refine newT fun t4 J4 _ l4 m4 => ?_
        walk_at "ss"
        refine newL fun t5 J5 _ l5 m5 => ?_
        walk_at "ss"
        have hpair : ∀ (i : Nat) (z : V), ([.ref t1, .ref t2, .ref t3, .ref t4] : List V)[i]? = some z → ∃ q u v, z = .ref q ∧ J5 q = some (.tup [u, v]) ∧ NB u ∧ NB v := by
          intro i z hz
          match i, hz with
          | 0, hz => cases hz; exact ⟨_, _, _, rfl, l5 _ _ (l4 _ _ (l3 _ _ (l2 _ _ m1))), nx, ny⟩
          | 1, hz => cases hz; exact ⟨_, _, _, rfl, l5 _ _ (l4 _ _ (l3 _ _ m2)), ny, nx⟩
          | 2, hz => cases hz; exact ⟨_, _, _, rfl, l5 _ _ (l4 _ _ m3), nx, nx⟩
          | 3, hz => cases hz; exact ⟨_, _, _, rfl, l5 _ _ m4, nx, ny⟩
          | i + 4, hz => simp at hz
        refine ⟨⟨_, SqL.of m5⟩, forL (xs := [.ref t1, .ref t2, .ref t3, .ref t4]) (fun m σ' H' => (∃ v8, σ' = [some (.ref a), v1, some (.int (i : Int)), some (.ref b), some x, some y, some (.int d), some (.str op), v8]) ∧ Ex J5 H') ⟨⟨_, rfl⟩, Ex.refl _⟩ (fun i σ' H' _ p => SqL.of (p.2 _ _ m5)) ?_ ?_⟩
        · rintro c z σ' H3 hc ⟨⟨v8, rfl⟩, eM⟩
          obtain ⟨q, u, v, rfl, hq, nu, nv⟩ := hpair c z hc
          have hq3 := eM _ _ hq
          walk_at "ss"
          refine c_ixT (SqT.of hq3) (v := u) rfl ?_
          walk_at "ss"
          refine c_ixT (SqT.of hq3) (v := v) rfl ?_
          walk_at "ss"
          refine c_ixT (SqT.of hq3) (v := u) rfl ?_
          walk_at "ss"
          refine c_ixT (SqT.of hq3) (v := v) rfl ?_
          walk_at "ss"
          refine ⟨_, _, _, rfl, nu, nv, hop, fun r K1 _ k1 hr1 => ?_⟩
          walk_at "ss"
          refine ⟨_, _, _, _, rfl, nu, nv, hop, hr1, fun K2 k2 => ?_⟩
          walk_at "ss"
          exact ⟨⟨_, rfl⟩, (eM.trans k1).trans k2⟩
        · rintro σ' H3 ⟨⟨v8, rfl⟩, eM⟩
          walk_at "ss"
          exact ⟨⟨_, _, rfl⟩, (((((eL.trans l1).trans l2).trans l3).trans l4).trans l5).trans eM⟩
      · rintro σ' H'' ⟨⟨v7, v8, rfl⟩, eL⟩
        walk_at "ss"
        exact ⟨⟨_, _, _, _, _, _, _, _, rfl⟩, (e.trans f48).trans eL⟩
    · rintro σ' H' ⟨⟨v1, v2, v3, v4, v5, v6, v7, v8, rfl⟩, e⟩
      walk_at "ss"
      refine ⟨rfl, fun q1 G5 hq1 f5 g5 => ?_⟩
      walk_at "ss"
      refine ⟨_, _, rfl, .inl (SqL.of g5), ?_⟩
      walk_at "ss"
      exact k _

end
theorem all_mk {l : PySem.W.OpenLaw} {w : World} {K : PySem.W.Frag} {h : Heap} {mg : Str → Option Value} {fa : Addr} (X : K.In h) (G : h.Ns mainGlobals mg) (hfa : mg "law" = some (.ref fa))
    {f0 : Addr} {od0 an0 : Option Addr} {sl0 : Array (Option Value)} {oc0 kV0 dc0 pm0 cd0 ct0 : Value}
    {f1 : Addr} {od1 an1 : Option Addr} {sl1 : Array (Option Value)} {oc1 kV1 dc1 pm1 cd1 ct1 : Value}
    {f2 : Addr} {od2 an2 : Option Addr} {sl2 : Array (Option Value)} {oc2 kV2 dc2 pm2 cd2 ct2 : Value}
    {f3 : Addr} {od3 an3 : Option Addr} {sl3 : Array (Option Value)} {oc3 kV3 dc3 pm3 cd3 ct3 : Value}
    {f4 : Addr} {od4 an4 : Option Addr} {sl4 : Array (Option Value)} {oc4 kV4 dc4 pm4 cd4 ct4 : Value}
    {f5 : Addr} {od5 an5 : Option Addr} {sl5 : Array (Option Value)} {oc5 kV5 dc5 pm5 cd5 ct5 : Value}
    {f6 : Addr} {od6 an6 : Option Addr} {sl6 : Array (Option Value)} {oc6 kV6 dc6 pm6 cd6 ct6 : Value}
    {f7 : Addr} {od7 an7 : Option Addr} {sl7 : Array (Option Value)} {oc7 kV7 dc7 pm7 cd7 ct7 : Value}
    {f8 : Addr} {od8 an8 : Option Addr} {sl8 : Array (Option Value)} {oc8 kV8 dc8 pm8 cd8 ct8 : Value}
    {f9 : Addr} {od9 an9 : Option Addr} {sl9 : Array (Option Value)} {oc9 kV9 dc9 pm9 cd9 ct9 : Value}
    {f10 : Addr} {od10 an10 : Option Addr} {sl10 : Array (Option Value)} {oc10 kV10 dc10 pm10 cd10 ct10 : Value}
    {f11 : Addr} {od11 an11 : Option Addr} {sl11 : Array (Option Value)} {oc11 kV11 dc11 pm11 cd11 ct11 : Value}
    {f12 : Addr} {od12 an12 : Option Addr} {sl12 : Array (Option Value)} {oc12 kV12 dc12 pm12 cd12 ct12 : Value}
    {f13 : Addr} {od13 an13 : Option Addr} {sl13 : Array (Option Value)} {oc13 kV13 dc13 pm13 cd13 ct13 : Value}
    {f14 : Addr} {od14 an14 : Option Addr} {sl14 : Array (Option Value)} {oc14 kV14 dc14 pm14 cd14 ct14 : Value}
    {f15 : Addr} {od15 an15 : Option Addr} {sl15 : Array (Option Value)} {oc15 kV15 dc15 pm15 cd15 ct15 : Value}
    {f16 : Addr} {od16 an16 : Option Addr} {sl16 : Array (Option Value)} {oc16 kV16 dc16 pm16 cd16 ct16 : Value}
    {f17 : Addr} {od17 an17 : Option Addr} {sl17 : Array (Option Value)} {oc17 kV17 dc17 pm17 cd17 ct17 : Value}
    (a0 : PySem.W.nsIn K mainGlobals "is_whole" = some (some (.ref f0))) (l0 : K.lookup f0 = some ⟨oc0, od0, .func (PySem.W.fnOf "is_whole" "is_whole" (defArgs s_is_whole) (defBody s_is_whole) (defScope s_is_whole) .none kV0 dc0 pm0 an0 cd0 ct0), sl0⟩) (c0 : PySem.W.codeIn K cd0 "is_whole" = true) (k0 : PySem.W.keepIn K (.ref f0) = true)
    (a1 : PySem.W.nsIn K mainGlobals "is_within" = some (some (.ref f1))) (l1 : K.lookup f1 = some ⟨oc1, od1, .func (PySem.W.fnOf "is_within" "is_within" (defArgs s_is_within) (defBody s_is_within) (defScope s_is_within) .none kV1 dc1 pm1 an1 cd1 ct1), sl1⟩) (c1 : PySem.W.codeIn K cd1 "is_within" = true) (k1 : PySem.W.keepIn K (.ref f1) = true)
    (a2 : PySem.W.nsIn K mainGlobals "is_value" = some (some (.ref f2))) (l2 : K.lookup f2 = some ⟨oc2, od2, .func (PySem.W.fnOf "is_value" "is_value" (defArgs s_is_value) (defBody s_is_value) (defScope s_is_value) .none kV2 dc2 pm2 an2 cd2 ct2), sl2⟩) (c2 : PySem.W.codeIn K cd2 "is_value" = true) (k2 : PySem.W.keepIn K (.ref f2) = true)
    (a3 : PySem.W.nsIn K mainGlobals "ops_told" = some (some (.ref f3))) (l3 : K.lookup f3 = some ⟨oc3, od3, .func (PySem.W.fnOf "ops_told" "ops_told" (defArgs s_ops_told) (defBody s_ops_told) (defScope s_ops_told) .none kV3 dc3 pm3 an3 cd3 ct3), sl3⟩) (c3 : PySem.W.codeIn K cd3 "ops_told" = true) (k3 : PySem.W.keepIn K (.ref f3) = true)
    (a4 : PySem.W.nsIn K mainGlobals "fits" = some (some (.ref f4))) (l4 : K.lookup f4 = some ⟨oc4, od4, .func (PySem.W.fnOf "fits" "fits" (defArgs s_fits) (defBody s_fits) (defScope s_fits) .none kV4 dc4 pm4 an4 cd4 ct4), sl4⟩) (c4 : PySem.W.codeIn K cd4 "fits" = true) (k4 : PySem.W.keepIn K (.ref f4) = true)
    (a5 : PySem.W.nsIn K mainGlobals "number_by" = some (some (.ref f5))) (l5 : K.lookup f5 = some ⟨oc5, od5, .func (PySem.W.fnOf "number_by" "number_by" (defArgs s_number_by) (defBody s_number_by) (defScope s_number_by) .none kV5 dc5 pm5 an5 cd5 ct5), sl5⟩) (c5 : PySem.W.codeIn K cd5 "number_by" = true) (k5 : PySem.W.keepIn K (.ref f5) = true)
    (a6 : PySem.W.nsIn K mainGlobals "truth_by" = some (some (.ref f6))) (l6 : K.lookup f6 = some ⟨oc6, od6, .func (PySem.W.fnOf "truth_by" "truth_by" (defArgs s_truth_by) (defBody s_truth_by) (defScope s_truth_by) .none kV6 dc6 pm6 an6 cd6 ct6), sl6⟩) (c6 : PySem.W.codeIn K cd6 "truth_by" = true) (k6 : PySem.W.keepIn K (.ref f6) = true)
    (a7 : PySem.W.nsIn K mainGlobals "reckoned" = some (some (.ref f7))) (l7 : K.lookup f7 = some ⟨oc7, od7, .func (PySem.W.fnOf "reckoned" "reckoned" (defArgs s_reckoned) (defBody s_reckoned) (defScope s_reckoned) .none kV7 dc7 pm7 an7 cd7 ct7), sl7⟩) (c7 : PySem.W.codeIn K cd7 "reckoned" = true) (k7 : PySem.W.keepIn K (.ref f7) = true)
    (a8 : PySem.W.nsIn K mainGlobals "_law_cell_at" = some (some (.ref f8))) (l8 : K.lookup f8 = some ⟨oc8, od8, .func (PySem.W.fnOf "_law_cell_at" "_law_cell_at" (defArgs s_cell_at_l) (defBody s_cell_at_l) (defScope s_cell_at_l) .none kV8 dc8 pm8 an8 cd8 ct8), sl8⟩) (c8 : PySem.W.codeIn K cd8 "_law_cell_at" = true) (k8 : PySem.W.keepIn K (.ref f8) = true)
    (a9 : PySem.W.nsIn K mainGlobals "_law_box" = some (some (.ref f9))) (l9 : K.lookup f9 = some ⟨oc9, od9, .func (PySem.W.fnOf "_law_box" "_law_box" (defArgs s_box_l) (defBody s_box_l) (defScope s_box_l) .none kV9 dc9 pm9 an9 cd9 ct9), sl9⟩) (c9 : PySem.W.codeIn K cd9 "_law_box" = true) (k9 : PySem.W.keepIn K (.ref f9) = true)
    (a10 : PySem.W.nsIn K mainGlobals "_law_take" = some (some (.ref f10))) (l10 : K.lookup f10 = some ⟨oc10, od10, .func (PySem.W.fnOf "_law_take" "_law_take" (defArgs s_take_l) (defBody s_take_l) (defScope s_take_l) .none kV10 dc10 pm10 an10 cd10 ct10), sl10⟩) (c10 : PySem.W.codeIn K cd10 "_law_take" = true) (k10 : PySem.W.keepIn K (.ref f10) = true)
    (a11 : PySem.W.nsIn K mainGlobals "_law_value" = some (some (.ref f11))) (l11 : K.lookup f11 = some ⟨oc11, od11, .func (PySem.W.fnOf "_law_value" "_law_value" (defArgs s_value_l) (defBody s_value_l) (defScope s_value_l) .none kV11 dc11 pm11 an11 cd11 ct11), sl11⟩) (c11 : PySem.W.codeIn K cd11 "_law_value" = true) (k11 : PySem.W.keepIn K (.ref f11) = true)
    (a12 : PySem.W.nsIn K mainGlobals "_law_is_number" = some (some (.ref f12))) (l12 : K.lookup f12 = some ⟨oc12, od12, .func (PySem.W.fnOf "_law_is_number" "_law_is_number" (defArgs s_is_number_l) (defBody s_is_number_l) (defScope s_is_number_l) .none kV12 dc12 pm12 an12 cd12 ct12), sl12⟩) (c12 : PySem.W.codeIn K cd12 "_law_is_number" = true) (k12 : PySem.W.keepIn K (.ref f12) = true)
    (a13 : PySem.W.nsIn K mainGlobals "_law_kind" = some (some (.ref f13))) (l13 : K.lookup f13 = some ⟨oc13, od13, .func (PySem.W.fnOf "_law_kind" "_law_kind" (defArgs s_kind_l) (defBody s_kind_l) (defScope s_kind_l) .none kV13 dc13 pm13 an13 cd13 ct13), sl13⟩) (c13 : PySem.W.codeIn K cd13 "_law_kind" = true) (k13 : PySem.W.keepIn K (.ref f13) = true)
    (a14 : PySem.W.nsIn K mainGlobals "_law_sum" = some (some (.ref f14))) (l14 : K.lookup f14 = some ⟨oc14, od14, .func (PySem.W.fnOf "_law_sum" "_law_sum" (defArgs s_sum_l) (defBody s_sum_l) (defScope s_sum_l) .none kV14 dc14 pm14 an14 cd14 ct14), sl14⟩) (c14 : PySem.W.codeIn K cd14 "_law_sum" = true) (k14 : PySem.W.keepIn K (.ref f14) = true)
    (a15 : PySem.W.nsIn K mainGlobals "_law_truth" = some (some (.ref f15))) (l15 : K.lookup f15 = some ⟨oc15, od15, .func (PySem.W.fnOf "_law_truth" "_law_truth" (defArgs s_truth_l) (defBody s_truth_l) (defScope s_truth_l) .none kV15 dc15 pm15 an15 cd15 ct15), sl15⟩) (c15 : PySem.W.codeIn K cd15 "_law_truth" = true) (k15 : PySem.W.keepIn K (.ref f15) = true)
    (a16 : PySem.W.nsIn K mainGlobals "_law_right" = some (some (.ref f16))) (l16 : K.lookup f16 = some ⟨oc16, od16, .func (PySem.W.fnOf "_law_right" "_law_right" (defArgs s_right_l) (defBody s_right_l) (defScope s_right_l) .none kV16 dc16 pm16 an16 cd16 ct16), sl16⟩) (c16 : PySem.W.codeIn K cd16 "_law_right" = true) (k16 : PySem.W.keepIn K (.ref f16) = true)
    (a17 : PySem.W.nsIn K mainGlobals "law" = some (some (.ref f17))) (l17 : K.lookup f17 = some ⟨oc17, od17, .func (PySem.W.fnOf "law" "law" (defArgs s_law) (defBody s_law) (defScope s_law) .none kV17 dc17 pm17 an17 cd17 ct17), sl17⟩) (c17 : PySem.W.codeIn K cd17 "law" = true) (k17 : PySem.W.keepIn K (.ref f17) = true)
    (n_abs : PySem.W.nsIn K mainGlobals "abs" = some none)
    (n_bool : PySem.W.nsIn K mainGlobals "bool" = some none)
    (n_divmod : PySem.W.nsIn K mainGlobals "divmod" = some none)
    (n_int : PySem.W.nsIn K mainGlobals "int" = some none)
    (n_isinstance : PySem.W.nsIn K mainGlobals "isinstance" = some none)
    (n_len : PySem.W.nsIn K mainGlobals "len" = some none)
    (n_list : PySem.W.nsIn K mainGlobals "list" = some none)
    (n_max : PySem.W.nsIn K mainGlobals "max" = some none)
    (n_min : PySem.W.nsIn K mainGlobals "min" = some none)
    (n_range : PySem.W.nsIn K mainGlobals "range" = some none)
    (n_tuple : PySem.W.nsIn K mainGlobals "tuple" = some none)
    {t_MOST : Tok} (c_MOST : PySem.W.nsIn K mainGlobals "MOST" = some (some (.int 1000000000 t_MOST)))
    {a_OPS : Addr} {dd_OPS : Option Addr} {its_OPS : Array Value} {n_OPS : Nat} {sl_OPS : Array (Option Value)} (c_OPS : PySem.W.nsIn K mainGlobals "OPS" = some (some (.ref a_OPS))) (l_OPS : K.lookup a_OPS = some ⟨.type "tuple", dd_OPS, .seq its_OPS n_OPS, sl_OPS⟩) (v_OPS : Vals [.str "+", .str "-", .str "*", .str "/", .str "mod", .str "<", .str "=", .str "&", .str "|"] its_OPS.toList) (z_OPS : its_OPS.size ≤ sizeLine)
    : ∃ fd : FuncData, (∀ (s : Shared) (v : Value), BindsTo s fd ⟨[v], []⟩ [("_law_script", v)]) ∧ ∀ base : Heap, K.In base → base.Ns mainGlobals mg → FnOk l.prog w K mg base CX0 5 fa fd ["_law_script"] (sp_law K) := by
  have e := hfa.symm.trans (PySem.W.mg_of X G a17)
  cases e
  have F0 := fun_mk (st := s_is_whole) l0 c0 k0
  have b0 := F0.binds (ps := ["thing"]) fun _ _ _ _ _ _ us hl => match us, hl with | [_], _ => rfl
  have F1 := fun_mk (st := s_is_within) l1 c1 k1
  have b1 := F1.binds (ps := ["thing", "low", "high"]) fun _ _ _ _ _ _ us hl => match us, hl with | [_, _, _], _ => rfl
  have F2 := fun_mk (st := s_is_value) l2 c2 k2
  have b2 := F2.binds (ps := ["thing"]) fun _ _ _ _ _ _ us hl => match us, hl with | [_], _ => rfl
  have F3 := fun_mk (st := s_ops_told) l3 c3 k3
  have b3 := F3.binds (ps := []) fun _ _ _ _ _ _ us hl => match us, hl with | [], _ => rfl
  have F4 := fun_mk (st := s_fits) l4 c4 k4
  have b4 := F4.binds (ps := ["op", "one", "other"]) fun _ _ _ _ _ _ us hl => match us, hl with | [_, _, _], _ => rfl
  have F5 := fun_mk (st := s_number_by) l5 c5 k5
  have b5 := F5.binds (ps := ["op", "one", "other"]) fun _ _ _ _ _ _ us hl => match us, hl with | [_, _, _], _ => rfl
  have F6 := fun_mk (st := s_truth_by) l6 c6 k6
  have b6 := F6.binds (ps := ["op", "one", "other"]) fun _ _ _ _ _ _ us hl => match us, hl with | [_, _, _], _ => rfl
  have F7 := fun_mk (st := s_reckoned) l7 c7 k7
  have b7 := F7.binds (ps := ["op", "one", "other"]) fun _ _ _ _ _ _ us hl => match us, hl with | [_, _, _], _ => rfl
  have F8 := fun_mk (st := s_cell_at_l) l8 c8 k8
  have b8 := F8.binds (ps := ["_law_script", "_law_k"]) fun _ _ _ _ _ _ us hl => match us, hl with | [_, _], _ => rfl
  have F9 := fun_mk (st := s_box_l) l9 c9 k9
  have b9 := F9.binds (ps := ["_law_cell"]) fun _ _ _ _ _ _ us hl => match us, hl with | [_], _ => rfl
  have F10 := fun_mk (st := s_take_l) l10 c10 k10
  have b10 := F10.binds (ps := ["_law_box_here", "_law_many"]) fun _ _ _ _ _ _ us hl => match us, hl with | [_, _], _ => rfl
  have F11 := fun_mk (st := s_value_l) l11 c11 k11
  have b11 := F11.binds (ps := ["_law_box_here"]) fun _ _ _ _ _ _ us hl => match us, hl with | [_], _ => rfl
  have F12 := fun_mk (st := s_is_number_l) l12 c12 k12
  have b12 := F12.binds (ps := ["_law_thing"]) fun _ _ _ _ _ _ us hl => match us, hl with | [_], _ => rfl
  have F13 := fun_mk (st := s_kind_l) l13 c13 k13
  have b13 := F13.binds (ps := ["_law_op", "_law_one", "_law_other"]) fun _ _ _ _ _ _ us hl => match us, hl with | [_, _, _], _ => rfl
  have F14 := fun_mk (st := s_sum_l) l14 c14 k14
  have b14 := F14.binds (ps := ["_law_op", "_law_one", "_law_other"]) fun _ _ _ _ _ _ us hl => match us, hl with | [_, _, _], _ => rfl
  have F15 := fun_mk (st := s_truth_l) l15 c15 k15
  have b15 := F15.binds (ps := ["_law_op", "_law_one", "_law_other"]) fun _ _ _ _ _ _ us hl => match us, hl with | [_, _, _], _ => rfl
  have F16 := fun_mk (st := s_right_l) l16 c16 k16
  have b16 := F16.binds (ps := ["_law_op", "_law_one", "_law_other", "_law_found"]) fun _ _ _ _ _ _ us hl => match us, hl with | [_, _, _, _], _ => rfl
  have F17 := fun_mk (st := s_law) l17 c17 k17
  have b17 := F17.binds (ps := ["_law_script"]) fun _ _ _ _ _ _ us hl => match us, hl with | [_], _ => rfl
  have T : Txt K mg ⟨f0, _, f1, _, f2, _, f3, _, f4, _, f5, _, f6, _, f7, _, f8, _, f9, _, f10, _, f11, _, f12, _, f13, _, f14, _, f15, _, f16, _, fa, _, a_OPS⟩ := ⟨F0, b0, PySem.W.mg_of X G a0, F1, b1, PySem.W.mg_of X G a1, F2, b2, PySem.W.mg_of X G a2, F3, b3, PySem.W.mg_of X G a3, F4, b4, PySem.W.mg_of X G a4, F5, b5, PySem.W.mg_of X G a5, F6, b6, PySem.W.mg_of X G a6, F7, b7, PySem.W.mg_of X G a7, F8, b8, PySem.W.mg_of X G a8, F9, b9, PySem.W.mg_of X G a9, F10, b10, PySem.W.mg_of X G a10, F11, b11, PySem.W.mg_of X G a11, F12, b12, PySem.W.mg_of X G a12, F13, b13, PySem.W.mg_of X G a13, F14, b14, PySem.W.mg_of X G a14, F15, b15, PySem.W.mg_of X G a15, F16, b16, PySem.W.mg_of X G a16, F17, b17, PySem.W.mg_of X G a17, PySem.W.mg_none_of X G n_abs, PySem.W.mg_none_of X G n_bool, PySem.W.mg_none_of X G n_divmod, PySem.W.mg_none_of X G n_int, PySem.W.mg_none_of X G n_isinstance, PySem.W.mg_none_of X G n_len, PySem.W.mg_none_of X G n_list, PySem.W.mg_none_of X G n_max, PySem.W.mg_none_of X G n_min, PySem.W.mg_none_of X G n_range, PySem.W.mg_none_of X G n_tuple, ⟨_, PySem.W.mg_of X G c_MOST, ⟨_, rfl⟩⟩, ⟨_, PySem.W.mg_of X G c_OPS, rfl⟩, fun H => .inr ⟨_, _, _, l_OPS, rfl, rfl, z_OPS, v_OPS⟩⟩
  exact ⟨_, fun s v => .of_eq rfl, fun base _ _ => ok_law T⟩
theorem walk {l : PySem.W.OpenLaw} {q : Program} {loose : List Str} {XP : (Str → Option Value) → Heap → Prop} {YP : World → Heap → Prop} {d : DefRec} {K : Params → PySem.W.Frag} (hn : l.most = some 63) (hdf : d.params.defaults = [])
    (hY : ∀ (w : World) (h : Heap), YP w h → (K w.params).In h)
    (F : ∀ (w : World) (mg : Str → Option Value) (fa : Addr) (h : Heap), (K w.params).In h → h.Ns mainGlobals mg → mg d.name = some (.ref fa) →
      ∃ fd : FuncData, (∀ (s : Shared) (u : Value), BindsTo s fd ⟨[u], []⟩ [("_law_script", u)]) ∧ ∀ base : Heap, (K w.params).In base → base.Ns mainGlobals mg → FnOk l.prog w (K w.params) mg base CX0 5 fa fd ["_law_script"] (sp_law (K w.params))) :
    PySem.W.WalkO q loose XP YP l.row.toRowW d [] (fun f vs => PySem.call f vs) :=
  L2.walk_of (n := 63) (k := 5) (x := "_law_script") (CX := fun _ => CX0) (sp := fun w => sp_law (K w.params)) hn (by decide) hdf ⟨rfl, by decide, by decide⟩ hY F (fun _ _ a ns hl _ hS => ⟨a, ns, rfl, hS, hl, fun _ => rfl⟩) fun _ _ _ _ _ z => z
end Toy

open PySem PySem.W PyProof.Rows in
set_option maxRecDepth 100000 in
set_option maxHeartbeats 0 in
theorem PySem.Challenge.cw_beatrows_k13_reckoned_by_operators_holds : PySem.Challenge.rw_beatrows_k13_reckoned_by_operators.Holds := by
  w_on; o_law; k_head; (case hw => w_witness2)
  k_fill
  refine Toy.walk (l := PySem.Challenge.rw_beatrows_k13_reckoned_by_operators) rfl rfl (fun w h Y => PySem.W.kIn_of Y) ?F
  case F =>
    intro w mg fa h KX G hmg
    refine' Toy.all_mk KX G hmg ?a0 ?l0 ?c0 ?k0 ?a1 ?l1 ?c1 ?k1 ?a2 ?l2 ?c2 ?k2 ?a3 ?l3 ?c3 ?k3 ?a4 ?l4 ?c4 ?k4 ?a5 ?l5 ?c5 ?k5 ?a6 ?l6 ?c6 ?k6 ?a7 ?l7 ?c7 ?k7 ?a8 ?l8 ?c8 ?k8 ?a9 ?l9 ?c9 ?k9 ?a10 ?l10 ?c10 ?k10 ?a11 ?l11 ?c11 ?k11 ?a12 ?l12 ?c12 ?k12 ?a13 ?l13 ?c13 ?k13 ?a14 ?l14 ?c14 ?k14 ?a15 ?l15 ?c15 ?k15 ?a16 ?l16 ?c16 ?k16 ?a17 ?l17 ?c17 ?k17 ?n_abs ?n_bool ?n_divmod ?n_int ?n_isinstance ?n_len ?n_list ?n_max ?n_min ?n_range ?n_tuple ?c_MOST ?c_OPS ?l_OPS ?v_OPS ?z_OPS
    (case a0 => k_is)
    (case l0 => k_is)
    (case c0 => k_is)
    (case k0 => k_is)
    (case a1 => k_is)
    (case l1 => k_is)
    (case c1 => k_is)
    (case k1 => k_is)
    (case a2 => k_is)
    (case l2 => k_is)
    (case c2 => k_is)
    (case k2 => k_is)
    (case a3 => k_is)
    (case l3 => k_is)
    (case c3 => k_is)
    (case k3 => k_is)
    (case a4 => k_is)
    (case l4 => k_is)
    (case c4 => k_is)
    (case k4 => k_is)
    (case a5 => k_is)
    (case l5 => k_is)
    (case c5 => k_is)
    (case k5 => k_is)
    (case a6 => k_is)
    (case l6 => k_is)
    (case c6 => k_is)
    (case k6 => k_is)
    (case a7 => k_is)
    (case l7 => k_is)
    (case c7 => k_is)
    (case k7 => k_is)
    (case a8 => k_is)
    (case l8 => k_is)
    (case c8 => k_is)
    (case k8 => k_is)
    (case a9 => k_is)
    (case l9 => k_is)
    (case c9 => k_is)
    (case k9 => k_is)
    (case a10 => k_is)
    (case l10 => k_is)
    (case c10 => k_is)
    (case k10 => k_is)
    (case a11 => k_is)
    (case l11 => k_is)
    (case c11 => k_is)
    (case k11 => k_is)
    (case a12 => k_is)
    (case l12 => k_is)
    (case c12 => k_is)
    (case k12 => k_is)
    (case a13 => k_is)
    (case l13 => k_is)
    (case c13 => k_is)
    (case k13 => k_is)
    (case a14 => k_is)
    (case l14 => k_is)
    (case c14 => k_is)
    (case k14 => k_is)
    (case a15 => k_is)
    (case l15 => k_is)
    (case c15 => k_is)
    (case k15 => k_is)
    (case a16 => k_is)
    (case l16 => k_is)
    (case c16 => k_is)
    (case k16 => k_is)
    (case a17 => k_is)
    (case l17 => k_is)
    (case c17 => k_is)
    (case k17 => k_is)
    (case n_abs => k_is)
    (case n_bool => k_is)
    (case n_divmod => k_is)
    (case n_int => k_is)
    (case n_isinstance => k_is)
    (case n_len => k_is)
    (case n_list => k_is)
    (case n_max => k_is)
    (case n_min => k_is)
    (case n_range => k_is)
    (case n_tuple => k_is)
    (case c_MOST => k_is)
    (case c_OPS => k_is)
    (case l_OPS => k_is)
    (case v_OPS => exact .cons ⟨_, rfl⟩ (.cons ⟨_, rfl⟩ (.cons ⟨_, rfl⟩ (.cons ⟨_, rfl⟩ (.cons ⟨_, rfl⟩ (.cons ⟨_, rfl⟩ (.cons ⟨_, rfl⟩ (.cons ⟨_, rfl⟩ (.cons ⟨_, rfl⟩ (.nil))))))))))
    (case z_OPS => decide)
