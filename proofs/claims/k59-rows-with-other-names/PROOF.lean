import PyProof.Rows.All
import Wide.All
import OpenK.AllK
import Wide.FinOn
import KE.KExcIs
import HandS.ForMost
import HandS.IsInst
import HandS.Flow
import HandS.Evl
import HandS.Walk
import HandS.Replace
import HandS.Deep
import HandS.SortKw
import HandS.Wide
import HandS.ExcOwn
import HandS.WordsExc
import HandS.TryMany
import HandS.More
import KE.DatumOrd
import HandS.DeepEq
import KE.KEqDict
import HandS.Exc
import HandS.ExcField
import HandS.ExcInit
import HandS.ExcValue
import HandS.Defaults
import HandS.ListItems
import HandS.Head0
import HandS.Head1
import HandS.Head2
import HandS.HeadEnd
import HandS.HeadHook1
import HandS.HeadHook2
import HandS.HeadHook3
import HandS.HeadHook4
import PySem.Challenge.RW_beatrows_k59_rows_with_other_names
set_option Elab.async false
set_option linter.all false
set_option maxRecDepth 100000
set_option maxHeartbeats 4000000
/-! ### own small rules -/
namespace L2
open PySem PySem.Spec PyProof.Rows
section
variable {X : Cx}
theorem pe_gcst {x : Str} {v : V} {pos : Pos} (hg : Gl X x) (h : ∃ u, X.mg x = some u ∧ RelV v u) (hd : (x == ("__debug__" : Str)) = false := by decide) : PE X (.Name x pos) (tC v) :=
  let ⟨_, hm, r⟩ := h
  pe_glob hg hm r hd
/-- divmod by any divisor but nought, below 2^30 -/
theorem call_divmodN : CallR X (.builtin "divmod") (fun xs H Q => ∃ i j : Int, xs = [.int i, .int j] ∧ CDivN i j ∧ ∀ p, H p = none → Q (.ref p) (upd H p (.tup [.int (i.fdiv j), .int (i.fmod j)]))) := by
  intro pins s σ H xs us Q I r h
  obtain ⟨i, j, rfl, ⟨h1, h2⟩, q⟩ := h
  obtain ⟨u, w', rfl, ⟨t, rfl⟩, ⟨t', rfl⟩⟩ := vals2 r
  refine divmod_int h1 ?_ (.inl (PyProof.noPylong_small h2))
  have hn := I.hok.fresh (Nat.le_refl s.heap.objs.size)
  refine ⟨.ref s.heap.objs.size, upd H s.heap.objs.size (.tup [.int (i.fdiv j), .int (i.fmod j)]), ?_, rfl, q _ hn⟩
  refine I.laid (fun b o e => Heap.get?_push_of_some _ e) (Nat.le_refl _) ?_
  refine ⟨by show 2 ≤ sizeLine; decide, [.int (i.fdiv j) s.toks, .int (i.fmod j) (s.toks + 1)], ?_, ?_⟩
  · exact .cons ⟨_, rfl⟩ (.cons ⟨_, rfl⟩ .nil)
  · exact ⟨_, Heap.get?_push_size s.heap rfl, rfl, 0, rfl⟩
end
/-- a new tuple, a new list of these, all else kept -/
def RetT (xs : List V) (H : Hp) (Q : VK) : Prop := ∀ p H2, H p = none → Evl.Ex H H2 → H2 p = some (.tup xs) → Q (.ref p) H2
def RetL (xs : List V) (H : Hp) (Q : VK) : Prop := ∀ p H2, H p = none → Evl.Ex H H2 → H2 p = some (.lst xs) → Q (.ref p) H2
def RetV (v : V) (H : Hp) (Q : VK) : Prop := ∀ H2, Evl.Ex H H2 → Q v H2
theorem RetT.up {xs : List V} {H0 H : Hp} {Q : VK} (k : RetT xs H0 Q) (e : Evl.Ex H0 H) : RetT xs H Q := fun p H2 hp e2 h2 => k p H2 (Evl.fresh_back e hp) (e.trans e2) h2
theorem RetL.up {xs : List V} {H0 H : Hp} {Q : VK} (k : RetL xs H0 Q) (e : Evl.Ex H0 H) : RetL xs H Q := fun p H2 hp e2 h2 => k p H2 (Evl.fresh_back e hp) (e.trans e2) h2
theorem RetV.up {v : V} {H0 H : Hp} {Q : VK} (k : RetV v H0 Q) (e : Evl.Ex H0 H) : RetV v H Q := fun H2 e2 => k H2 (e.trans e2)
def NewT (xs : List V) (H : Hp) (Q : VK) : Prop := xs.length ≤ sizeLine ∧ ∀ p, H p = none → Q (.ref p) (upd H p (.tup xs))
def NewL (xs : List V) (H : Hp) (Q : VK) : Prop := xs.length ≤ sizeLine ∧ ∀ p, H p = none → Q (.ref p) (upd H p (.lst xs))
theorem newT {xs : List V} {H : Hp} {Q : VK} (k : RetT xs H Q) (hz : xs.length ≤ 100000 := by exact Nat.le_of_ble_eq_true rfl) : NewT xs H Q := ⟨Evl.sz_of hz, fun p hp => k p _ hp (Evl.Ex.new hp) upd_same⟩
theorem newL {xs : List V} {H : Hp} {Q : VK} (k : RetL xs H Q) (hz : xs.length ≤ 100000 := by exact Nat.le_of_ble_eq_true rfl) : NewL xs H Q := ⟨Evl.sz_of hz, fun p hp => k p _ hp (Evl.Ex.new hp) upd_same⟩
theorem if_tt {c : Bool} {A B : Prop} (hc : c = true) (h : A) : if c = true then A else B := by rw [if_pos hc]; exact h
theorem if_ff {c : Bool} {A B : Prop} (hc : c = false) (h : B) : if c = true then A else B := by rw [hc]; exact iteF h
theorem if_nt {A B : Prop} (h : B) : if (!true) = true then A else B := iteF h
theorem if_nf {A B : Prop} (h : A) : if (!false) = true then A else B := iteT h
theorem if_cs {c : Bool} {A B : Prop} (h1 : c = true → A) (h2 : c = false → B) : if c = true then A else B := by
  cases c with
  | true => exact iteT (h1 rfl)
  | false => exact iteF (h2 rfl)
theorem kb_ii : kitB "int" "int" = some true := by decide +kernel
theorem kb_bi : kitB "bool" "int" = some true := by decide +kernel
theorem kb_ib : kitB "int" "bool" = some false := by decide +kernel
theorem kb_bb : kitB "bool" "bool" = some true := by decide +kernel
theorem ty_int {K : PySem.W.Frag} {H : Hp} (i : Int) : TyX K H (.int i) (.type "int") := .base (.int i)
theorem ty_bl {K : PySem.W.Frag} {H : Hp} (b : Bool) : TyX K H (.bl b) (.type "bool") := .base (.bl b)
theorem ty_str {K : PySem.W.Frag} {H : Hp} (b : Str) : TyX K H (.str b) (.type "str") := .base (.str b)
theorem ty_non {K : PySem.W.Frag} {H : Hp} : TyX K H .non (.type "NoneType") := .base .non
theorem ty_tup {K : PySem.W.Frag} {H : Hp} {a : Addr} {xs : List V} (h : H a = some (.tup xs)) : TyX K H (.ref a) (.type "tuple") := .base (.tup h)
theorem ty_lst {K : PySem.W.Frag} {H : Hp} {a : Addr} {xs : List V} (h : H a = some (.lst xs)) : TyX K H (.ref a) (.type "list") := .base (.lst h)
/-- isinstance of a thing of a built-in type -/
theorem isi {K : PySem.W.Frag} {H : Hp} {Q : VK} {x : V} {a b : String} {r : Bool} (h : TyX K H x (.type a)) (e : kitB a b = some r) (q : Q (.bl r) H) : rIsi K [x, .ty b] H Q :=
  ⟨x, .ty b, .type a, .type b, r, rfl, .ty b, h, kit_ty e, q⟩
end L2

/-! ### readings, one step each (the goal's head tells which) -/
namespace L2
open PySem PySem.Spec PyProof.Rows
section
variable {K : PySem.W.Frag} {σ : St} {H : Hp} {Q : VK} {B : Bool → Hp → Prop} {ta tb tc te : TE} {t u : TT} {tA : TA} {D : Ends} {s1 s2 : TS} {g : TG} {gs : TGs} {v : V} {r : R2}
theorem c_var {i : Nat} (h : σ[i]? = some (some v)) (q : Q v H) : tVar i σ H Q := ⟨v, h, q⟩
theorem c_c (q : Q v H) : tC v σ H Q := q
theorem c_op (h : ta σ H fun x H1 => tb σ H1 fun y H2 => r x y H2 Q) : tOp r ta tb σ H Q := h
theorem c_un {f : V → Hp → VK → Prop} (h : ta σ H fun x H1 => f x H1 Q) : tUn f ta σ H Q := h
theorem c_test (h : te σ H fun x H1 => ∃ k, x = .bl k ∧ B k H1) : tTest te σ H B := h
theorem c_b (h : te σ H fun x H1 => ∃ k, x = .bl k ∧ B k H1) : tB te σ H B := h
theorem c_and (h : t σ H fun c H1 => if c = true then u σ H1 B else B false H1) : tAnd t u σ H B := h
theorem c_or (h : t σ H fun c H1 => if c = true then B true H1 else u σ H1 B) : tOr t u σ H B := h
theorem c_not (h : t σ H fun c H1 => B (!c) H1) : tNot t σ H B := h
theorem c_andV (h : ta σ H fun x H1 => ∃ c, x = .bl c ∧ if c = true then tb σ H1 Q else Q (.bl false) H1) : tAndV ta tb σ H Q := h
theorem c_orV (h : ta σ H fun x H1 => ∃ c, x = .bl c ∧ if c = true then Q (.bl true) H1 else tb σ H1 Q) : tOrV ta tb σ H Q := h
theorem c_notV (h : ta σ H fun x H1 => ∃ c, x = .bl c ∧ Q (.bl (!c)) H1) : tNotV ta σ H Q := h
theorem c_if (h : t σ H fun c H1 => if c = true then ta σ H1 Q else tb σ H1 Q) : tIf t ta tb σ H Q := h
theorem c_orT (h : ta σ H fun x H1 => ∃ k, TruV K x H1 k ∧ if k = true then Q x H1 else tb σ H1 Q) : tOrT K ta tb σ H Q := h
theorem c_andT (h : ta σ H fun x H1 => ∃ k, TruV K x H1 k ∧ if k = true then tb σ H1 Q else Q x H1) : tAndT K ta tb σ H Q := h
theorem c_notT (h : ta σ H fun x H1 => ∃ k, TruV K x H1 k ∧ Q (.bl (!k)) H1) : tNotT K ta σ H Q := h
theorem c_yes (h : B true H) : tYes σ H B := h
theorem c_nil {q : List V → Hp → Prop} (h : q [] H) : tNil σ H q := h
theorem c_cons {q : List V → Hp → Prop} (h : ta σ H fun x H1 => tA σ H1 fun xs H2 => q (x :: xs) H2) : tCons ta tA σ H q := h
theorem c_tup (h : tA σ H fun xs H1 => NewT xs H1 Q) : tTup tA σ H Q := h
theorem c_lst (h : tA σ H fun xs H1 => NewL xs H1 Q) : tLst tA σ H Q := h
theorem c_call {sp : Sp} {E : XK} (h : tA σ H fun vs H1 => sp vs H1 Q E) : tCall sp [] E tA σ H Q := by
  show tA σ H fun vs H1 => sp (vs ++ []) H1 Q E
  simp only [List.append_nil]
  exact h
theorem c_cb {f : List V → Hp → VK → Prop} (h : tA σ H fun vs H1 => f vs H1 Q) : tCB f tA σ H Q := h
theorem c_sl {f : V → Option Int → Option Int → Hp → VK → Prop} {tl th : TO} (h : te σ H fun x H1 => tl σ H1 fun l H2 => th σ H2 fun u H3 => f x l u H3 Q) : tSl f te tl th σ H Q := h
theorem c_noPart {q : Option Int → Hp → Prop} (h : q none H) : tNoPart σ H q := h
theorem c_part {q : Option Int → Hp → Prop} (h : te σ H fun x H1 => ∃ i, x = .int i ∧ q (some i) H1) : tPart te σ H q := h
theorem c_bm {T : String} {f : V → List V → Hp → VK → Prop} (h : te σ H fun x H1 => tyV K T x H1 ∧ tA σ H1 fun xs H2 => f x xs H2 Q) : tBM K T f te tA σ H Q := h
theorem c_bm0 {T : String} {f : V → List V → Hp → VK → Prop} (h : te σ H fun x H1 => tyV K T x H1 ∧ f x [] H1 Q) : tBM0 K T f te σ H Q := h
theorem c_m0 {f : V → List V → Hp → VK → Prop} (h : te σ H fun x H1 => (∃ a, x = .str a) ∧ f x [] H1 Q) : tM0 f te σ H Q := h
theorem c_m1 {f : V → List V → Hp → VK → Prop} (h : ta σ H fun x H1 => (∃ a, x = .str a) ∧ tb σ H1 fun y H2 => f x [y] H2 Q) : tM1 f ta tb σ H Q := h
theorem c_chain {r' : R2} (h : ta σ H fun x H1 => tb σ H1 fun y H2 => r x y H2 fun z H3 => ∃ k, z = .bl k ∧ (if k = true then tc σ H3 fun w' H4 => r' y w' H4 Q else Q (.bl false) H3)) : tChain r r' ta tb tc σ H Q := h
/-! statements -/
theorem c_next (h : D.nx σ H) : tNext D σ H := h
theorem c_seq (h : s1 { D with nx := s2 D } σ H) : tSeq s1 s2 D σ H := h
theorem c_asg (h : te σ H fun x H1 => g x σ H1 D.nx) : tAsg te g D σ H := h
theorem c_ret (h : te σ H D.rt) : tRet te D σ H := h
theorem c_retN (h : D.rt .non H) : tRetN D σ H := h
theorem c_ifS (h : t σ H fun b H1 => if b = true then s1 D σ H1 else s2 D σ H1) : tIfS t s1 s2 D σ H := h
theorem c_drop (h : te σ H fun _ H1 => D.nx σ H1) : tDrop te D σ H := h
theorem c_break (h : D.bk σ H) : tBreak D σ H := h
theorem c_cont (h : D.ct σ H) : tCont D σ H := h
theorem c_nx {nx : St → Hp → Prop} {rt : VK} {bk ct : St → Hp → Prop} (h : nx σ H) : Ends.nx ⟨nx, rt, bk, ct⟩ σ H := h
theorem c_rt {nx : St → Hp → Prop} {rt : VK} {bk ct : St → Hp → Prop} (h : rt v H) : Ends.rt ⟨nx, rt, bk, ct⟩ v H := h
theorem c_bk {nx : St → Hp → Prop} {rt : VK} {bk ct : St → Hp → Prop} (h : bk σ H) : Ends.bk ⟨nx, rt, bk, ct⟩ σ H := h
theorem c_ct {nx : St → Hp → Prop} {rt : VK} {bk ct : St → Hp → Prop} (h : ct σ H) : Ends.ct ⟨nx, rt, bk, ct⟩ σ H := h
theorem c_gName {i : Nat} {q : St → Hp → Prop} (h : q (σ.set i (some v)) H) : gName i v σ H q := h
theorem c_gTup {n : Nat} {a : Addr} {xs : List V} {q : St → Hp → Prop} (hs : SqT K H a xs) (hl : xs.length = n) (h : gs xs σ H q) : gTup K n gs (.ref a) σ H q := ⟨a, xs, rfl, hs, hl, h⟩
theorem c_gCons {vs : List V} {q : St → Hp → Prop} (h : g v σ H fun σ' H' => gs vs σ' H' q) : gCons g gs (v :: vs) σ H q := ⟨v, vs, rfl, h⟩
theorem c_gNil {q : St → Hp → Prop} (h : q σ H) : gNil [] σ H q := ⟨rfl, h⟩
theorem c_gSub {to ti : TE} {f : TSet} {q : St → Hp → Prop} (h : to σ H fun o H1 => ti σ H1 fun i H2 => f o i v H2 fun H3 => q σ H3) : gSub to ti f v σ H q := h
theorem c_cut {M : St → Hp → Prop} (h : s1 { D with nx := M } σ H) (k : ∀ σ' H', M σ' H' → s2 D σ' H') : Evl.tCut s1 s2 D σ H := ⟨M, h, k⟩
/-! operations on values -/
theorem c_I0 {f : Int → Int → V} {i j : Int} (q : Q (f i j) H) : rI0 f (.int i) (.int j) H Q := ⟨i, j, rfl, rfl, q⟩
theorem c_I {C : Int → Int → Prop} {f : Int → Int → V} {i j : Int} (hc : C i j) (q : Q (f i j) H) : rI C f (.int i) (.int j) H Q := ⟨i, j, rfl, rfl, hc, q⟩
theorem c_U {f : Int → V} {i : Int} (q : Q (f i) H) : rU f (.int i) H Q := ⟨i, rfl, q⟩
theorem c_eq {x y : V} (h : scal x y = true) (q : Q (.bl (decide (x = y))) H) : rEq x y H Q := ⟨h, q⟩
theorem c_ne {x y : V} (h : scal x y = true) (q : Q (.bl (!decide (x = y))) H) : rNe x y H Q := ⟨h, q⟩
theorem c_ixL {p : Addr} {xs : List V} {i : Int} (h : SqL K H p xs) (ha : atI xs i = some v) (q : Q v H) : rIxL K (.ref p) (.int i) H Q := ⟨p, xs, i, v, rfl, rfl, h, ha, q⟩
theorem c_ixT {p : Addr} {xs : List V} {i : Int} (h : SqT K H p xs) (ha : atI xs i = some v) (q : Q v H) : rIxT K (.ref p) (.int i) H Q := ⟨p, xs, i, v, rfl, rfl, h, ha, q⟩
theorem c_setL {p : Addr} {xs : List V} {k : Int} {j : Nat} {q : Hp → Prop} (h : H p = some (.lst xs)) (hj : ixN xs.length k = some j) (h2 : q (upd H p (.lst (xs.set j v)))) : rSetL (.ref p) (.int k) v H q := ⟨p, xs, k, j, rfl, rfl, h, hj, h2⟩
theorem c_in {x : V} {p : Addr} {xs : List V} (h : SqL K H p xs ∨ SqT K H p xs) (hx : flatV x = true) (ha : xs.all flatV = true) (q : Q (.bl (inV x xs)) H) : rIn K false x (.ref p) H Q := ⟨p, xs, rfl, h, hx, ha, q⟩
theorem c_notin {x : V} {p : Addr} {xs : List V} (h : SqL K H p xs ∨ SqT K H p xs) (hx : flatV x = true) (ha : xs.all flatV = true) (q : Q (.bl (!inV x xs)) H) : rIn K true x (.ref p) H Q := ⟨p, xs, rfl, h, hx, ha, q⟩
theorem c_cat {l b : Addr} {xs zs : List V} (h : H l = some (.lst xs)) (h' : H b = some (.lst zs)) (k : RetL (xs ++ zs) H Q) (hz : xs.length + zs.length ≤ 100000 := by exact Nat.le_of_ble_eq_true rfl) : rCat (.ref l) (.ref b) H Q :=
  ⟨l, b, xs, zs, rfl, rfl, h, h', Evl.sz_of hz, fun p hp => k p _ hp (Evl.Ex.new hp) upd_same⟩
end
end L2

/-! ### == of tuples and lists of flat things -/
namespace L2
open PySem PySem.Spec PyProof.Rows
def dOf : V → PyData
  | .non => .none
  | .bl b => .bool b
  | .int i => .int i
  | .str x => .str x
  | _ => .none
/-- flat, its signs within the line -/
def okV : V → Bool
  | .non => true
  | .bl _ => true
  | .int _ => true
  | .str x => PyData.strOk x
  | _ => false
theorem okV_flat {v : V} (h : okV v = true) : flatV v = true := by
  cases v <;> first | rfl | exact absurd h Bool.false_ne_true
theorem okL_flat {xs : List V} (h : xs.all okV = true) : xs.all flatV = true := by
  rw [List.all_eq_true] at h ⊢
  exact fun x hx => okV_flat (h x hx)
def eqL : List V → List V → Bool
  | [], [] => true
  | x :: xs, y :: ys => eqV x y && eqL xs ys
  | _, _ => false
theorem dp_flat {K : PySem.W.Frag} {H : Hp} {v : V} (h : flatV v = true) : Dp K H v (dOf v) := by
  cases v with
  | non => exact .non
  | bl b => exact .bl b
  | int i => exact .int i
  | str x => exact .str x
  | _ => exact absurd h Bool.false_ne_true
theorem dpAll_flat {K : PySem.W.Frag} {H : Hp} : ∀ {xs : List V}, xs.all flatV = true → DpAll K H xs (xs.map dOf)
  | [], _ => .nil
  | x :: xs, h => by
    rw [List.all_cons, Bool.and_eq_true] at h
    exact .cons (dp_flat h.1) (dpAll_flat h.2)
theorem eqv_flat {a b : V} (ha : flatV a = true) (hb : flatV b = true) : PyData.eqv (dOf a) (dOf b) = eqV a b := by
  cases a <;> first | exact absurd ha Bool.false_ne_true | (cases b <;> first | exact absurd hb Bool.false_ne_true | simp [dOf, PyData.eqv, eqV])
theorem eqvAll_flat : ∀ {xs ys : List V}, xs.all flatV = true → ys.all flatV = true → PyData.eqvAll (xs.map dOf) (ys.map dOf) = eqL xs ys
  | [], [], _, _ => by simp [PyData.eqvAll, eqL]
  | [], _ :: _, _, _ => by simp [PyData.eqvAll, eqL]
  | _ :: _, [], _, _ => by simp [PyData.eqvAll, eqL]
  | x :: xs, y :: ys, h, h' => by
    rw [List.all_cons, Bool.and_eq_true] at h h'
    rw [List.map_cons, List.map_cons, PyData.eqvAll, eqv_flat h.1 h'.1, eqvAll_flat h.2 h'.2] <;> rfl
theorem flat_lay {v : V} (ho : okV v = true) : (dOf v).canLay0 = true ∧ (dOf v).depth ≤ 1 := by
  cases v <;> first | exact absurd ho Bool.false_ne_true | (simp [okV] at ho; simp [dOf, PyData.canLay0, PyData.depth, ho]) | simp [dOf, PyData.canLay0, PyData.depth]
theorem flat_layAll : ∀ {xs : List V}, xs.all okV = true → PyData.canLayAll0 (xs.map dOf) = true ∧ PyData.depthAll (xs.map dOf) ≤ 1
  | [], _ => by simp [PyData.canLayAll0, PyData.depthAll]
  | x :: xs, ho => by
    rw [List.all_cons, Bool.and_eq_true] at ho
    have h := flat_lay (v := x) ho.1
    have h2 := flat_layAll (xs := xs) ho.2
    rw [List.map_cons, PyData.canLayAll0, PyData.depthAll, h.1, h2.1]
    refine ⟨rfl, ?_⟩
    have := h.2
    have := h2.2
    omega
theorem shaped_tup {xs : List V} (ho : xs.all okV = true) : SeqAt.shaped (.tuple (xs.map dOf)) = true := by
  have h := flat_layAll (xs := xs) ho
  have h2 := h.2
  unfold SeqAt.shaped
  rw [PyData.canLay0, PyData.depth, h.1, Bool.true_and, decide_eq_true_eq]
  omega
theorem shaped_lst {xs : List V} (ho : xs.all okV = true) : SeqAt.shaped (.list (xs.map dOf)) = true := by
  have h := flat_layAll (xs := xs) ho
  have h2 := h.2
  unfold SeqAt.shaped
  rw [PyData.canLay0, PyData.depth, h.1, Bool.true_and, decide_eq_true_eq]
  omega
section
variable {K : PySem.W.Frag} {H : Hp} {Q : VK} {p q : Addr} {xs ys : List V}
theorem c_eqT (h : SqT K H p xs) (h' : SqT K H q ys) (f : xs.all okV = true) (f' : ys.all okV = true) (k : Q (.bl (eqL xs ys)) H) : rEqD K (.ref p) (.ref q) H Q :=
  ⟨_, _, .tup h (dpAll_flat (okL_flat f)), .tup h' (dpAll_flat (okL_flat f')), shaped_tup f, shaped_tup f', by rw [PyData.eqv, eqvAll_flat (okL_flat f) (okL_flat f')]; exact k⟩
theorem c_neT (h : SqT K H p xs) (h' : SqT K H q ys) (f : xs.all okV = true) (f' : ys.all okV = true) (k : Q (.bl (!eqL xs ys)) H) : rNeD K (.ref p) (.ref q) H Q :=
  ⟨_, _, .tup h (dpAll_flat (okL_flat f)), .tup h' (dpAll_flat (okL_flat f')), shaped_tup f, shaped_tup f', by rw [PyData.eqv, eqvAll_flat (okL_flat f) (okL_flat f')]; exact k⟩
theorem c_eqLs (h : SqL K H p xs) (h' : SqL K H q ys) (f : xs.all okV = true) (f' : ys.all okV = true) (k : Q (.bl (eqL xs ys)) H) : rEqD K (.ref p) (.ref q) H Q :=
  ⟨_, _, .lst h (dpAll_flat (okL_flat f)), .lst h' (dpAll_flat (okL_flat f')), shaped_lst f, shaped_lst f', by rw [PyData.eqv, eqvAll_flat (okL_flat f) (okL_flat f')]; exact k⟩
theorem c_neLs (h : SqL K H p xs) (h' : SqL K H q ys) (f : xs.all okV = true) (f' : ys.all okV = true) (k : Q (.bl (!eqL xs ys)) H) : rNeD K (.ref p) (.ref q) H Q :=
  ⟨_, _, .lst h (dpAll_flat (okL_flat f)), .lst h' (dpAll_flat (okL_flat f')), shaped_lst f, shaped_lst f', by rw [PyData.eqv, eqvAll_flat (okL_flat f) (okL_flat f')]; exact k⟩
theorem eqV_refl {v : V} (h : flatV v = true) : eqV v v = true := by
  cases v <;> first | exact absurd h Bool.false_ne_true | simp [eqV]
theorem eqL_refl : ∀ {xs : List V}, xs.all flatV = true → eqL xs xs = true
  | [], _ => rfl
  | x :: xs, h => by
    rw [List.all_cons, Bool.and_eq_true] at h
    rw [eqL, eqV_refl h.1, eqL_refl h.2] <;> rfl
end
/-! ### the law's box -/
def BoxAt (H : Hp) (b : Addr) : Prop := ∃ x y z : Int, 0 ≤ x ∧ H b = some (.lst [.int x, .int y, .int z])
/-- all but b is kept -/
def ExB (b : Addr) (H H' : Hp) : Prop := ∀ a o, a ≠ b → H a = some o → H' a = some o
theorem ExB.refl (b : Addr) (H : Hp) : ExB b H H := fun _ _ _ h => h
theorem ExB.trans {b : Addr} {H H1 H2 : Hp} (e : ExB b H H1) (e2 : ExB b H1 H2) : ExB b H H2 := fun a o n h => e2 a o n (e a o n h)
theorem ExB.ex {b : Addr} {H H1 H2 : Hp} (e : ExB b H H1) (e2 : Evl.Ex H1 H2) : ExB b H H2 := fun a o n h => e2 a o (e a o n h)
theorem ExB.of {b : Addr} {H H1 : Hp} (e : Evl.Ex H H1) : ExB b H H1 := fun a o _ h => e a o h
theorem ExB.upd {b : Addr} {H : Hp} {o : HO} : ExB b H (upd H b o) := fun a u n h => by rw [upd_ne n]; exact h
theorem BoxAt.ex {H H' : Hp} {b : Addr} (h : BoxAt H b) (e : Evl.Ex H H') : BoxAt H' b := let ⟨x, y, z, p, q⟩ := h; ⟨x, y, z, p, e _ _ q⟩
/-- what did not stand before b was made is kept through ExB b -/
theorem ExB.tot {b : Addr} {H0 H H' : Hp} (e : Evl.Ex H0 H) (n : H0 b = none) (e2 : ExB b H H') : Evl.Ex H0 H' := fun a o h => e2 a o (ne_of_none h n) (e a o h)
theorem ExB.lst {K : PySem.W.Frag} {b a : Addr} {H H' : Hp} {xs : List V} (e : ExB b H H') (n : a ≠ b) (h : SqL K H a xs) : SqL K H' a xs := by
  rcases h with (h | ⟨o, h⟩) | h
  · exact .inl (.inl (e _ _ n h))
  · exact .inl (.inr ⟨o, e _ _ n h⟩)
  · exact .inr h
end L2
namespace L2
open PySem PySem.Spec PyProof.Rows
theorem shaped_flat {v : V} (h : okV v = true) : SeqAt.shaped (dOf v) = true := by
  have q := flat_lay h
  unfold SeqAt.shaped
  rw [q.1, Bool.true_and, decide_eq_true_eq]
  have := q.2
  omega
theorem c_eqF {K : PySem.W.Frag} {H : Hp} {Q : VK} {x y : V} (f : okV x = true) (f' : okV y = true) (k : Q (.bl (eqV x y)) H) : rEqD K x y H Q :=
  ⟨_, _, dp_flat (okV_flat f), dp_flat (okV_flat f'), shaped_flat f, shaped_flat f', by rw [eqv_flat (okV_flat f) (okV_flat f')]; exact k⟩
theorem c_neF {K : PySem.W.Frag} {H : Hp} {Q : VK} {x y : V} (f : okV x = true) (f' : okV y = true) (k : Q (.bl (!eqV x y)) H) : rNeD K x y H Q :=
  ⟨_, _, dp_flat (okV_flat f), dp_flat (okV_flat f'), shaped_flat f, shaped_flat f', by rw [eqv_flat (okV_flat f) (okV_flat f')]; exact k⟩
end L2
namespace L2
open PySem PySem.Spec PyProof.Rows
theorem dec_s {x y : Str} : decide (V.str x = V.str y) = decide (x = y) := by
  by_cases h : x = y
  · subst h; simp
  · rw [decide_eq_false h, decide_eq_false fun e => h (V.str.inj e)]
theorem str_ne {x y : Str} (h : x ≠ y) : decide (V.str x = V.str y) = false := by rw [dec_s]; exact decide_eq_false h
theorem str_eq {x y : Str} (h : x = y) : decide (V.str x = V.str y) = true := by rw [dec_s]; exact decide_eq_true h
end L2

/-! ### list.count of flat things -/
namespace L2
open PySem PySem.Spec PyProof.Rows
theorem countP_eqU {x : V} : ∀ {xs : List V} {us : List Value}, Vals xs us → xs.all flatV = true → us.countP (eqU x) = xs.countP fun y => eqV y x
  | _, _, .nil, _ => rfl
  | y :: xs, u :: us, .cons r t, h => by
    rw [List.all_cons, Bool.and_eq_true] at h
    rw [List.countP_cons, List.countP_cons, countP_eqU t h.2, eqU_of r h.1]
def rCntF (K : PySem.W.Frag) : V → List V → Hp → VK → Prop := fun x xs H Q => ∃ (p : Addr) (ys : List V) (y : V), x = .ref p ∧ xs = [y] ∧ SqL K H p ys ∧ flatV y = true ∧ ys.all flatV = true ∧ Q (.int ((ys.countP fun z => eqV z y : Nat) : Int)) H
theorem mt_countF {X : Cx} : MtR X "list.count" (rCntF X.K) := by
  intro pins s σ H x xs v us Q I rx rxs h
  obtain ⟨p, ys, y, rfl, rfl, hs, fy, fl, q⟩ := h
  cases rx
  obtain ⟨u, rfl, ru⟩ := rxs.one
  obtain ⟨its, rv, ⟨⟨cls, dd, data, sl⟩, n, ho, hc, hdn, hd⟩, hlen⟩ := I.list hs
  simp only at hc hd
  subst hc hd
  have ec : its.toArray.toList.countP (eqU y) = ys.countP fun z => eqV z y := countP_eqU rv fl
  refine call_meets PySem.F.slot_list_count ⟨_, ho, rfl⟩ PySem.F.entry_list_count (PySem.F.args_list_count_2 _ _)
    (SeqAt.list_countAt p its.toArray n dd sl u (eqU y)) ⟨ho, fun z hz => mem_eqAt ru fy rv fl z (by simpa using hz), ?_⟩
  refine ⟨.int ((ys.countP fun z => eqV z y : Nat) : Int), H, I.tok _, ⟨s.toks, ?_⟩, q⟩
  rw [ec]
end L2

/-! ### a list comprehension whose element and test are told by the turn -/
namespace L2
open PySem PySem.Spec PyProof.Rows
theorem range_fm {f : Nat → Option V} {n : Nat} : (List.range (n + 1)).filterMap f = (List.range n).filterMap f ++ (f n).toList := by
  rw [List.range_succ, List.filterMap_append]
  cases h : f n <;> simp [List.filterMap_cons, h]
theorem fm_len {f : Nat → Option V} {n : Nat} : ((List.range n).filterMap f).length ≤ n := by
  have h := List.length_filterMap_le f (List.range n)
  rw [List.length_range] at h
  exact h
section
variable {K : PySem.W.Frag} {σ : St} {H : Hp} {Q : VK} {g : TG} {tt : TT} {te : TE} {vs : List Nat}
/-- one turn: the target, the test, the element come to f i, all that stood kept -/
def LcTurn (g : TG) (tt : TT) (te : TE) (vs : List Nat) (σ : St) (H : Hp) (x : V) (y : Option V) : Prop :=
  ∀ H2, Evl.Ex H H2 → ∀ R : Option V → Hp → Prop, (∀ H3, Evl.Ex H2 H3 → R y H3) →
    g x (wipe σ vs) H2 fun σ2 H3 => wipe σ2 vs = wipe σ vs ∧ tt σ2 H3 fun b H4 => if b = true then te σ2 H4 fun y H5 => R (some y) H5 else R none H4
theorem lc_of {n : Nat} {D : Addr} {H1 : Hp} {f : Nat → Option V} {i : Nat} {H' : Hp} (hn : n ≤ 50000) (hi : i < n) (p1 : H1 D = none) (p2 : Evl.Ex H1 H') (p3 : H' D = some (.lst ((List.range i).filterMap f))) {x : V} (ht : LcTurn g tt te vs σ H1 x (f i)) :
    g x (wipe σ vs) H' fun σ2 H2 => wipe σ2 vs = wipe σ vs ∧ tt σ2 H2 fun b H3 =>
      if b = true then te σ2 H3 fun y H4 => ∃ acc, H4 D = some (.lst acc) ∧ acc.length < sizeLine ∧ (H1 D = none ∧ Evl.Ex H1 (upd H4 D (.lst (acc ++ [y]))) ∧ upd H4 D (.lst (acc ++ [y])) D = some (.lst ((List.range (i + 1)).filterMap f))) else (H1 D = none ∧ Evl.Ex H1 H3 ∧ H3 D = some (.lst ((List.range (i + 1)).filterMap f))) := by
  refine ht H' p2 (fun o H4 => match o with
    | some y => ∃ acc, H4 D = some (.lst acc) ∧ acc.length < sizeLine ∧ (H1 D = none ∧ Evl.Ex H1 (upd H4 D (.lst (acc ++ [y]))) ∧ upd H4 D (.lst (acc ++ [y])) D = some (.lst ((List.range (i + 1)).filterMap f)))
    | none => (H1 D = none ∧ Evl.Ex H1 H4 ∧ H4 D = some (.lst ((List.range (i + 1)).filterMap f)))) (fun H3 e3 => ?_)
  cases hf : f i with
  | some y =>
    refine ⟨_, e3 _ _ p3, ?_, p1, Evl.Ex.mut (p2.trans e3) p1, ?_⟩
    · have := fm_len (f := f) (n := i)
      exact Evl.sz_lt (by omega)
    · rw [upd_same, range_fm, hf] <;> rfl
  | none =>
    refine ⟨p1, p2.trans e3, ?_⟩
    rw [range_fm, hf]
    show H3 D = some (.lst (_ ++ []))
    rw [List.append_nil]
    exact e3 _ _ p3
end
end L2

/-! ### loops -/
namespace L2
open PySem PySem.Spec PyProof.Rows
/-- a loop over what is walked already -/
def ForI (J : It) (g : TG) (tb : TS) (D : Ends) (σ : St) (H : Hp) : Prop := tFor (fun _ H1 R => R J H1) g tb D σ H
section
variable {K : PySem.W.Frag} {σ : St} {H : Hp} {D : Ends} {g : TG} {tb : TS} {ta : TA} {tl : TE}
theorem c_forR1 (h : ta σ H fun vs H1 => ∃ j : Int, vs = [.int j] ∧ -(2 ^ 62) ≤ j ∧ j < 2 ^ 62 ∧ ForI (Itr 0 j.toNat) g tb D σ H1) : tFor (iRng1 ta) g tb D σ H := h
theorem c_forR2 (h : ta σ H fun vs H1 => ∃ i j : Int, vs = [.int i, .int j] ∧ (-(2 ^ 62) ≤ i ∧ i < 2 ^ 62 ∧ -(2 ^ 62) ≤ j ∧ j < 2 ^ 62) ∧ ForI (Itr i (j - i).toNat) g tb D σ H1) : tFor (iRng2 ta) g tb D σ H := h
theorem c_forL (h : tl σ H fun x H1 => ∃ a, x = .ref a ∧ (∃ xs, SqL K H1 a xs) ∧ ForI (Itl K a) g tb D σ H1) : tFor (iList K tl) g tb D σ H := h
theorem c_forT (h : tl σ H fun x H1 => ∃ a, x = .ref a ∧ (∃ xs, SqT K H1 a xs) ∧ ForI (Itt K a) g tb D σ H1) : tFor (iTup K tl) g tb D σ H := h
/-- range(n), n whole and not below 0 or below it -/
theorem forR {n : Nat} {j : Nat} (Pv : Nat → St → Hp → Prop) (h0 : Pv 0 σ H) (hs : ∀ (i : Nat) σ' H', i < n → Pv i σ' H' → tb { D with nx := Pv (i + 1), ct := Pv (i + 1), bk := D.nx } (σ'.set j (some (.int (i : Int)))) H') (hd : ∀ σ' H', Pv n σ' H' → D.nx σ' H') : ForI (Itr 0 n) (gName j) tb D σ H :=
  for_range (lo := 0) (n := n) Pv h0 (fun i σ' H' hi p => by
    have e0 : (0 : Int) + (i : Int) = (i : Int) := Int.zero_add _
    show tb { D with nx := Pv (i + 1), ct := Pv (i + 1), bk := D.nx } (σ'.set j (some (.int ((0 : Int) + (i : Int))))) H'
    rw [e0]
    exact hs i σ' H' hi p) hd
theorem forL {a : Addr} {xs : List V} {j : Nat} (Pv : Nat → St → Hp → Prop) (h0 : Pv 0 σ H) (hl : ∀ i σ' H', i ≤ xs.length → Pv i σ' H' → SqL K H' a xs)
    (hs : ∀ i x σ' H', xs[i]? = some x → Pv i σ' H' → tb { D with nx := Pv (i + 1), ct := Pv (i + 1), bk := D.nx } (σ'.set j (some x)) H') (hd : ∀ σ' H', Pv xs.length σ' H' → D.nx σ' H') : ForI (Itl K a) (gName j) tb D σ H := for_list Pv h0 hl hs hd
theorem forT {a : Addr} {xs : List V} {j : Nat} (Pv : Nat → St → Hp → Prop) (h0 : Pv 0 σ H) (hl : ∀ i σ' H', i ≤ xs.length → Pv i σ' H' → SqT K H' a xs)
    (hs : ∀ i x σ' H', xs[i]? = some x → Pv i σ' H' → tb { D with nx := Pv (i + 1), ct := Pv (i + 1), bk := D.nx } (σ'.set j (some x)) H') (hd : ∀ σ' H', Pv xs.length σ' H' → D.nx σ' H') : ForI (Itt K a) (gName j) tb D σ H := for_tup Pv h0 hl hs hd
end
/-- a comprehension over what is walked already -/
def LcI (J : It) (g : TG) (tt : TT) (te : TE) (vs : List Nat) (σ : St) (H : Hp) (Q : VK) : Prop := tLc (fun _ H1 R => R J H1) g tt te vs σ H Q
section
variable {K : PySem.W.Frag} {σ : St} {H : Hp} {Q : VK} {g : TG} {tt : TT} {te : TE} {vs : List Nat} {ta : TA} {tl : TE}
theorem c_lcR1 (h : ta σ H fun ws H1 => ∃ j : Int, ws = [.int j] ∧ -(2 ^ 62) ≤ j ∧ j < 2 ^ 62 ∧ LcI (Itr 0 j.toNat) g tt te vs σ H1 Q) : tLc (iRng1 ta) g tt te vs σ H Q := h
theorem c_lcLi (h : tl σ H fun x H1 => ∃ a, x = .ref a ∧ (∃ xs, SqL K H1 a xs) ∧ LcI (Itl K a) g tt te vs σ H1 Q) : tLc (iList K tl) g tt te vs σ H Q := h
theorem c_lcTi (h : tl σ H fun x H1 => ∃ a, x = .ref a ∧ (∃ xs, SqT K H1 a xs) ∧ LcI (Itt K a) g tt te vs σ H1 Q) : tLc (iTup K tl) g tt te vs σ H Q := h
theorem lcL {a : Addr} {xs : List V} (f : Nat → Option V) (hs : SqL K H a xs) (hl : xs.length ≤ 50000) (ht : ∀ (i : Nat) (x : V), xs[i]? = some x → LcTurn g tt te vs σ H x (f i)) (k : RetL ((List.range xs.length).filterMap f) H Q) : LcI (Itl K a) g tt te vs σ H Q := by
  refine fun D hD => ?_
  refine lc_list (xs := xs) (fun i H' => H D = none ∧ Evl.Ex H H' ∧ H' D = some (.lst ((List.range i).filterMap f))) ⟨hD, Evl.Ex.new hD, upd_same⟩ (fun i H' _ p => Evl.ex_l p.2.1 hs) (fun i x H' hi p => ?_) (fun H' p => k D H' p.1 p.2.1 p.2.2)
  exact lc_of hl (List.getElem?_eq_some_iff.mp hi).1 p.1 p.2.1 p.2.2 (ht i x hi)
theorem lcT {a : Addr} {xs : List V} (f : Nat → Option V) (hs : SqT K H a xs) (hl : xs.length ≤ 50000) (ht : ∀ (i : Nat) (x : V), xs[i]? = some x → LcTurn g tt te vs σ H x (f i)) (k : RetL ((List.range xs.length).filterMap f) H Q) : LcI (Itt K a) g tt te vs σ H Q := by
  refine fun D hD => ?_
  refine lc_tup (xs := xs) (fun i H' => H D = none ∧ Evl.Ex H H' ∧ H' D = some (.lst ((List.range i).filterMap f))) ⟨hD, Evl.Ex.new hD, upd_same⟩ (fun i H' _ p => Evl.ex_t p.2.1 hs) (fun i x H' hi p => ?_) (fun H' p => k D H' p.1 p.2.1 p.2.2)
  exact lc_of hl (List.getElem?_eq_some_iff.mp hi).1 p.1 p.2.1 p.2.2 (ht i x hi)
theorem lcR {n : Nat} (f : Nat → Option V) (hl : n ≤ 50000) (ht : ∀ (i : Nat), i < n → LcTurn g tt te vs σ H (.int (i : Int)) (f i)) (k : RetL ((List.range n).filterMap f) H Q) : LcI (Itr 0 n) g tt te vs σ H Q := by
  refine fun D hD => ?_
  refine lc_range (lo := 0) (n := n) (fun i H' => H D = none ∧ Evl.Ex H H' ∧ H' D = some (.lst ((List.range i).filterMap f))) ⟨hD, Evl.Ex.new hD, upd_same⟩ (fun i H' hi p => ?_) (fun H' p => k D H' p.1 p.2.1 p.2.2)
  have e0 : (0 : Int) + (i : Int) = (i : Int) := Int.zero_add _
  rw [e0]
  exact lc_of hl hi p.1 p.2.1 p.2.2 (ht i hi)
end
end L2

/-! ### texts -/
namespace L2
open PySem PySem.Spec PyProof.Rows
open TL (tl)
/-- x is b, x is not b, b True or False, x a flat thing -/
def rIsV : R2 := fun x y H Q => ∃ b : Bool, y = .bl b ∧ Q (.bl (decide (x = .bl b))) H
def rNotV : R2 := fun x y H Q => ∃ b : Bool, y = .bl b ∧ Q (.bl (!decide (x = .bl b))) H
section
variable {X : Cx}
theorem isV_plain {x : V} {v : Value} {b : Bool} (rx : RelV x v) : plainIs v (.bool b) = true ∧ (v == Value.bool b) = decide (x = .bl b) := by
  cases x with
  | non => cases (show v = Value.none from rx); exact ⟨rfl, rfl⟩
  | bl c =>
    cases (show v = Value.bool c from rx)
    refine ⟨rfl, ?_⟩
    cases c <;> cases b <;> rfl
  | int i => obtain ⟨t, e⟩ := (show ∃ t, v = Value.int i t from rx); cases e; exact ⟨rfl, rfl⟩
  | str z => obtain ⟨t, e⟩ := (show ∃ t, v = Value.str z t from rx); cases e; exact ⟨rfl, rfl⟩
  | byt z => obtain ⟨t, e⟩ := (show ∃ t, v = Value.bytes z t from rx); cases e; exact ⟨rfl, rfl⟩
  | flt z => obtain ⟨t, e⟩ := (show ∃ t, v = Value.float z t from rx); cases e; exact ⟨rfl, rfl⟩
  | ref a => cases (show v = Value.ref a from rx); exact ⟨rfl, rfl⟩
  | ty n => cases (show v = Value.type n from rx); exact ⟨rfl, rfl⟩
theorem op_isB : OpR X (compareOp .Is) rIsV := by
  intro pins s σ H x y v u Q I rx ry h
  obtain ⟨b, rfl, q⟩ := h
  cases (show u = Value.bool b from ry)
  have z := isV_plain (b := b) rx
  refine wpAny_is_plain z.1 ?_
  rw [z.2]
  exact ⟨.bl _, H, I, rfl, q⟩
theorem op_notB : OpR X (compareOp .IsNot) rNotV := by
  intro pins s σ H x y v u Q I rx ry h
  obtain ⟨b, rfl, q⟩ := h
  cases (show u = Value.bool b from ry)
  have z := isV_plain (b := b) rx
  refine wpAny_isNot_plain z.1 ?_
  rw [z.2]
  exact ⟨.bl _, H, I, rfl, q⟩
end
/-- s * n, n two at least -/
def repS (x : Str) (n : Nat) : Str := ⟨(List.replicate n x.cps).foldl (· ++ ·) #[]⟩
theorem rep_size (a : Array Nat) : ∀ (n : Nat) (acc : Array Nat), ((List.replicate n a).foldl (· ++ ·) acc).size = acc.size + n * a.size
  | 0, acc => by simp
  | n + 1, acc => by
    rw [List.replicate_succ, List.foldl_cons, rep_size a n, Array.size_append, Nat.succ_mul]
    omega
theorem repS_len (x : Str) (n : Nat) : (repS x n).length = n * x.length := by
  show ((List.replicate n x.cps).foldl (· ++ ·) #[]).size = _
  rw [rep_size]
  simp [Str.length]
section
variable {X : Cx}
theorem op_rep_str : OpR X (binaryOp .Mult) (fun x y H Q => ∃ (z : Str) (n : Int), x = .str z ∧ y = .int n ∧ 2 ≤ n ∧ n ≤ 100000 ∧ 0 < z.length ∧ z.length ≤ 100 ∧ Q (.str (repS z n.toNat)) H) := by
  intro pins s σ H x y v u Q I rx ry h
  obtain ⟨z, n, rfl, rfl, h2, h1, z0, z1, q⟩ := h
  obtain ⟨t, rfl⟩ := rx
  obtain ⟨t', rfl⟩ := ry
  have hs : sizeLine = 16777216 := sizeLine_eq
  have hp : z.length * n.toNat ≤ 100 * 100000 := Nat.mul_le_mul z1 (by omega)
  refine PySem.P.mul_str ?_ (fun _ _ => ?_) (fun _ _ => ?_) ?_
  · rw [decide_eq_false (by omega), decide_eq_false (by omega)]; rfl
  · have : (100 : Int) ≤ (2 ^ 63 - 1) / n := by
      rw [Int.le_ediv_iff_mul_le (by omega)]
      omega
    omega
  · unfold Builtin.Str.tooLong
    rw [decide_eq_false (by omega)]
  · rw [if_neg (by omega), if_neg (by
      rw [Bool.or_eq_true, beq_iff_eq, beq_iff_eq]
      omega)]
    refine ⟨?_, .str (repS z n.toNat), H, I.tok _, ⟨_, rfl⟩, q⟩
    have e := repS_len z n.toNat
    rw [Nat.mul_comm] at e
    show (repS z n.toNat).length ≤ sizeLine
    omega
end
/-! loops over a text -/
section
variable {K : PySem.W.Frag} {σ : St} {H : Hp} {D : Ends} {Q : VK} {g : TG} {tb : TS} {tl' : TE} {tt : TT} {te : TE} {vs : List Nat}
theorem c_forS (h : tl' σ H fun v H1 => ∃ x, v = .str x ∧ ForI (Its x) g tb D σ H1) : tFor (iStr tl') g tb D σ H := h
theorem c_lcSi (h : tl' σ H fun v H1 => ∃ x, v = .str x ∧ LcI (Its x) g tt te vs σ H1 Q) : tLc (iStr tl') g tt te vs σ H Q := h
theorem tl_get {x : Str} {i c : Nat} : x.cps[i]? = some c ↔ (tl x)[i]? = some c := by
  show _ ↔ x.cps.toList[i]? = some c
  rw [Array.getElem?_toList]
theorem tl_len (x : Str) : (tl x).length = x.length := by simp [tl, Str.length]
theorem forS {x : Str} {j : Nat} (Pv : Nat → St → Hp → Prop) (h0 : Pv 0 σ H)
    (hs : ∀ i c σ' H', (tl x)[i]? = some c → Pv i σ' H' → tb { D with nx := Pv (i + 1), ct := Pv (i + 1), bk := D.nx } (σ'.set j (some (.str ⟨#[c]⟩))) H') (hd : ∀ σ' H', Pv (tl x).length σ' H' → D.nx σ' H') : ForI (Its x) (gName j) tb D σ H :=
  for_it walk_str Pv h0 (fun _ _ _ _ _ => trivial) (fun i v σ' H' H'' hi p y => by
    obtain ⟨rfl, c, hc, rfl⟩ := y
    exact hs i c σ' H'' (tl_get.mp hc) p) (by
    have e : x.cps.size = (tl x).length := by simp [tl]
    rw [e]
    exact hd)
theorem fm_range {α : Type} {F : α → Option V} : ∀ {l : List α}, (List.range l.length).filterMap (fun i => (l[i]?).bind F) = l.filterMap F
  | [] => rfl
  | a :: l => by
    rw [List.length_cons, List.range_succ_eq_map, List.filterMap_cons, List.filterMap_map, List.filterMap_cons]
    have ih := fm_range (F := F) (l := l)
    rw [List.getElem?_cons_zero, Option.bind_some]
    have e : ((fun i => ((a :: l)[i]?).bind F) ∘ Nat.succ) = fun i => (l[i]?).bind F := by
      funext i
      simp
    rw [e, ih] <;> rfl
theorem lcS {x : Str} (F : Nat → Option V) (hl : x.length ≤ 50000) (ht : ∀ c, c ∈ tl x → LcTurn g tt te vs σ H (.str ⟨#[c]⟩) (F c)) (k : RetL ((tl x).filterMap F) H Q) : LcI (Its x) g tt te vs σ H Q := by
  refine fun D hD => ?_
  have e : x.cps.size = (tl x).length := by simp [tl]
  refine lc_it walk_str (fun i H' => H D = none ∧ Evl.Ex H H' ∧ H' D = some (.lst ((List.range i).filterMap fun i => ((tl x)[i]?).bind F))) ⟨hD, Evl.Ex.new hD, upd_same⟩ (fun _ _ _ _ => trivial) (fun i v H' H'' hi p y => ?_) (fun H' p => k D H' p.1 p.2.1 ?_)
  · obtain ⟨rfl, c, hc, rfl⟩ := y
    have hc2 := tl_get.mp hc
    refine lc_of (n := x.cps.size) (f := fun i => ((tl x)[i]?).bind F) hl hi p.1 p.2.1 p.2.2 ?_
    rw [hc2]
    exact ht c (List.mem_of_getElem? hc2)
  · have q := p.2.2
    rw [e, fm_range] at q
    exact q
/-- the same of a list, by what its things are -/
theorem lcLv {a : Addr} {xs : List V} (F : V → Option V) (hs : SqL K H a xs) (hl : xs.length ≤ 50000) (ht : ∀ x, x ∈ xs → LcTurn g tt te vs σ H x (F x)) (k : RetL (xs.filterMap F) H Q) : LcI (Itl K a) g tt te vs σ H Q := by
  refine lcL (fun i => (xs[i]?).bind F) hs hl (fun i x hi => ?_) ?_
  · rw [hi]
    exact ht x (List.mem_of_getElem? hi)
  · rw [fm_range]
    exact k
end
theorem fm_some {α : Type} {F : α → V} : ∀ (l : List α), l.filterMap (fun c => some (F c)) = l.map F
  | [] => rfl
  | a :: l => by rw [List.filterMap_cons, List.map_cons, fm_some l]
theorem tl_ext {x y : Str} : x = y ↔ tl x = tl y := ⟨fun h => by rw [h], TL.ext_tl⟩
theorem starts_is (x y : Str) : Txt.startswith x y = ((tl x).take (tl y).length == tl y) := by
  unfold Txt.startswith
  rw [StrLaws.subAt_eq]
  show (decide (0 + y.length ≤ x.length) && (((tl x).drop 0).take y.length == tl y)) = _
  rw [List.drop_zero, tl_len]
  cases h : (List.take y.length (tl x) == tl y) with
  | false => rw [Bool.and_false]
  | true =>
    rw [Bool.and_true, decide_eq_true_eq]
    have e := congrArg List.length (beq_iff_eq.mp h)
    rw [List.length_take, tl_len, tl_len] at e
    omega
theorem tl_cut (z : Str) (lo hi : Option Int) : tl (cutS z lo hi) = ((tl z).drop (HT.sIx z.length 0 lo)).take (HT.sIx z.length z.length hi - HT.sIx z.length 0 lo) := rfl
theorem tl_one (c : Nat) : tl ⟨#[c]⟩ = [c] := rfl
end L2
namespace L2
open PySem PySem.Spec PyProof.Rows
open TL (tl)
theorem c_ixS {H : Hp} {Q : VK} {z : Str} {i : Int} {c : Nat} (hz : z.length ≤ 100000) (ha : atI (tl z) i = some c) (q : Q (.str ⟨#[c]⟩) H) : rIxS (.str z) (.int i) H Q := ⟨z, i, c, rfl, rfl, Evl.sz_of hz, ha, q⟩
theorem c_slS {H : Hp} {Q : VK} {z : Str} {lo hi : Option Int} (hz : z.length ≤ 100000) (q : Q (.str (cutS z lo hi)) H) : rSlS (.str z) lo hi H Q := ⟨z, rfl, Evl.sz_of hz, q⟩
theorem sIx_le' (n d : Nat) (hd : d ≤ n) (o : Option Int) : HT.sIx n d o ≤ n := HT.sIx_le n d hd o
theorem add_len (a b : Str) : (a ++ b).length = a.length + b.length := by
  rw [← tl_len, TL.tl_append, List.length_append, tl_len, tl_len]
end L2
namespace L2
open PySem PySem.Spec PyProof.Rows
open TL (tl)
/-- a text whose signs lie within the line -/
def OkT (t : Str) : Prop := ∀ c, c ∈ tl t → c < 1114112
theorem okT_V {t : Str} (h : OkT t) : okV (.str t) = true := by
  show PyData.strOk t = true
  unfold PyData.strOk
  rw [Array.all_eq_true']
  intro c hc
  exact decide_eq_true (h c (Array.mem_toList_iff.mpr hc))
theorem okT_one {c : Nat} (h : c < 1114112) : okV (.str ⟨#[c]⟩) = true := okT_V fun d hd => by
  have : d = c := by simpa [tl] using hd
  omega
theorem OkT.app {a b : Str} (ha : OkT a) (hb : OkT b) : OkT (a ++ b) := fun c hc => by
  rw [TL.tl_append] at hc
  rcases List.mem_append.mp hc with h | h
  · exact ha c h
  · exact hb c h
theorem OkT.cut {a : Str} (ha : OkT a) (lo hi : Option Int) : OkT (cutS a lo hi) := fun c hc => ha c (List.mem_of_mem_drop (List.mem_of_mem_take hc))
theorem OkT.lit {t : Str} (h : (tl t).all (fun c => decide (c < 1114112)) = true) : OkT t := fun c hc => of_decide_eq_true (List.all_eq_true.mp h c hc)
end L2

/-! ### draws within a comprehension; joined texts -/
namespace L2
open PySem PySem.Spec PyProof.Rows
open TL (tl)
section
variable {K : PySem.W.Frag} {σ : St} {H : Hp} {Q : VK} {g : TG} {tt : TT} {te : TE} {vs : List Nat}
theorem BoxAt.some {H : Hp} {b : Addr} (h : BoxAt H b) : ∃ o, H b = Option.some o := let ⟨_, _, _, _, q⟩ := h; ⟨_, q⟩
theorem lcRB {n : Nat} {b : Addr} (good : V → Prop) (hn : n ≤ 1000) (hB : BoxAt H b)
    (ht : ∀ (i : Nat), i < n → ∀ H2, BoxAt H2 b → ExB b H H2 → ∀ (R : V → Hp → Prop) (N : Hp → Prop), (∀ y H3, good y → BoxAt H3 b → ExB b H2 H3 → R y H3) →
      g (.int (i : Int)) (wipe σ vs) H2 fun σ2 H3 => wipe σ2 vs = wipe σ vs ∧ tt σ2 H3 fun c H4 => if c = true then te σ2 H4 fun y H5 => R y H5 else N H4)
    (k : ∀ ys p H2, ys.length = n → (∀ y ∈ ys, good y) → H p = none → ExB b H H2 → BoxAt H2 b → H2 p = some (.lst ys) → Q (.ref p) H2) : LcI (Itr 0 n) g tt te vs σ H Q := by
  refine fun D hD => ?_
  obtain ⟨ob, hob⟩ := hB.some
  have nDb : D ≠ b := (ne_of_none hob hD).symm
  have bx : ∀ {G : Hp} {o : HO}, BoxAt G b → BoxAt (upd G D o) b := fun ⟨x, y, z, p, q⟩ => ⟨x, y, z, p, by rw [upd_ne nDb.symm]; exact q⟩
  have ex : ∀ {G : Hp} {o : HO}, ExB b H G → ExB b H (upd G D o) := fun e a u na ha => by rw [upd_ne (ne_of_none ha hD)]; exact e a u na ha
  refine lc_range (lo := 0) (n := n) (fun i H' => i ≤ n ∧ ExB b H H' ∧ BoxAt H' b ∧ ∃ ys, ys.length = i ∧ (∀ y ∈ ys, good y) ∧ H' D = some (.lst ys)) ⟨Nat.zero_le _, ex (ExB.refl _ _), bx hB, [], rfl, (fun _ h => by cases h), upd_same⟩ (fun i H' hi p => ?_) (fun H' p => ?_)
  · obtain ⟨_, e1, b1, ys, hl, hg, hy⟩ := p
    have e0 : (0 : Int) + (i : Int) = (i : Int) := Int.zero_add _
    rw [e0]
    refine ht i hi H' b1 e1 (fun y H4 => ∃ acc, H4 D = some (.lst acc) ∧ acc.length < sizeLine ∧ (i + 1 ≤ n ∧ ExB b H (upd H4 D (.lst (acc ++ [y]))) ∧ BoxAt (upd H4 D (.lst (acc ++ [y]))) b ∧ ∃ zs, zs.length = i + 1 ∧ (∀ y ∈ zs, good y) ∧ upd H4 D (.lst (acc ++ [y])) D = some (.lst zs))) _ (fun y H3 gy b3 e3 => ?_)
    refine ⟨ys, e3 D _ nDb hy, Evl.sz_lt (by omega), hi, ex (e1.trans e3), bx b3, ys ++ [y], by rw [List.length_append, hl]; rfl, fun z hz => ?_, upd_same⟩
    rcases List.mem_append.mp hz with h | h
    · exact hg z h
    · have : z = y := by simpa using h
      rw [this]
      exact gy
  · obtain ⟨_, e1, b1, ys, hl, hg, hy⟩ := p
    exact k ys D H' hl hg hD e1 b1 hy
end
theorem strs_of {P : Str → Prop} : ∀ {l : List V}, (∀ y ∈ l, ∃ s, y = .str s ∧ P s) → ∃ ss : List Str, l = ss.map V.str ∧ ∀ s ∈ ss, P s
  | [], _ => ⟨[], rfl, fun _ h => by cases h⟩
  | y :: l, h => by
    obtain ⟨s, rfl, hs⟩ := h y List.mem_cons_self
    obtain ⟨ss, rfl, hss⟩ := strs_of fun z hz => h z (List.mem_cons_of_mem _ hz)
    exact ⟨s :: ss, rfl, fun z hz => (List.mem_cons.mp hz).elim (fun e => e ▸ hs) (hss z)⟩
theorem joinL_in {S : List Nat} : ∀ {ps : List (List Nat)} {c : Nat}, c ∈ TL.joinL S ps → c ∈ S ∨ ∃ p ∈ ps, c ∈ p
  | [], c, h => by cases h
  | [p], c, h => .inr ⟨p, List.mem_cons_self, h⟩
  | p :: q :: ps, c, h => by
    have h' : c ∈ p ++ S ++ TL.joinL S (q :: ps) := by first | exact h | simpa [TL.joinL] using h
    rcases List.mem_append.mp h' with h | h
    · rcases List.mem_append.mp h with h | h
      · exact .inr ⟨p, List.mem_cons_self, h⟩
      · exact .inl h
    · rcases joinL_in h with h | ⟨r, hr, hc⟩
      · exact .inl h
      · exact .inr ⟨r, List.mem_cons_of_mem _ hr, hc⟩
theorem joinL_len {S : List Nat} {m : Nat} : ∀ {ps : List (List Nat)}, (∀ p ∈ ps, p.length ≤ m) → (TL.joinL S ps).length ≤ ps.length * (m + S.length)
  | [], _ => by simp [TL.joinL]
  | [p], h => by
    have := h p List.mem_cons_self
    show p.length ≤ _
    simp
    omega
  | p :: q :: ps, h => by
    have h1 := h p List.mem_cons_self
    have ih := joinL_len (S := S) (ps := q :: ps) fun r hr => h r (List.mem_cons_of_mem _ hr)
    have e : TL.joinL S (p :: q :: ps) = p ++ S ++ TL.joinL S (q :: ps) := by first | rfl | simp [TL.joinL]
    rw [e, List.length_append, List.length_append, List.length_cons, Nat.succ_mul]
    omega
theorem join_ok {sep : Str} {ss : List Str} {m : Nat} (ho : OkT sep) (hs : ∀ s ∈ ss, OkT s ∧ s.length ≤ m) : OkT (Txt.join sep ss) ∧ (Txt.join sep ss).length ≤ ss.length * (m + sep.length) := by
  rw [TL.join_eq]
  constructor
  · intro c hc
    rw [TL.tl_join] at hc
    rcases joinL_in hc with h | ⟨p, hp, h⟩
    · exact ho c h
    · obtain ⟨s, hs', rfl⟩ := List.mem_map.mp hp
      exact (hs s hs').1 c h
  · rw [← tl_len, TL.tl_join, ← tl_len sep]
    have := joinL_len (S := tl sep) (m := m) (ps := ss.map tl) fun p hp => by
      obtain ⟨s, hs', rfl⟩ := List.mem_map.mp hp
      rw [tl_len]
      exact (hs s hs').2
    rw [List.length_map] at this
    exact this
theorem sum_len {ss : List Str} {m : Nat} (h : ∀ s ∈ ss, s.length ≤ m) : (ss.map (·.length)).sum ≤ ss.length * m := by
  induction ss with
  | nil => simp
  | cons a l ih =>
    rw [List.map_cons, List.sum_cons, List.length_cons, Nat.succ_mul]
    have := h a List.mem_cons_self
    have := ih fun s hs => h s (List.mem_cons_of_mem _ hs)
    omega
end L2
namespace L2
open PySem PySem.Spec PyProof.Rows
theorem forLg {K : PySem.W.Frag} {σ : St} {H : Hp} {D : Ends} {g : TG} {tb : TS} {a : Addr} {xs : List V} (Pv : Nat → St → Hp → Prop) (h0 : Pv 0 σ H) (hl : ∀ i σ' H', i ≤ xs.length → Pv i σ' H' → SqL K H' a xs)
    (hs : ∀ i x σ' H', xs[i]? = some x → Pv i σ' H' → g x σ' H' fun σ2 H2 => tb { D with nx := Pv (i + 1), ct := Pv (i + 1), bk := D.nx } σ2 H2) (hd : ∀ σ' H', Pv xs.length σ' H' → D.nx σ' H') : ForI (Itl K a) g tb D σ H := for_list Pv h0 hl hs hd
theorem hu65 {A : Around} {k : Nat} (hr : Room k A) : A.units + 65 < cLine := by have := hr.un; omega
end L2

/-! ### own errors: made, held as values, read, asked for their class -/
namespace L2
open PySem PySem.Spec PyProof.Rows
def cBody (st : Stmt) : List Stmt := match st with
  | .ClassDef (body := l) .. => l
  | _ => []
/-- the class at C is an own error class over ValueError -/
def xcB (K : PySem.W.Frag) (C : Addr) : Bool := match K.lookup C with
  | some ⟨.type "type", _, .cls cd, sl⟩ => (match cd.mro, sl.toList with
    | .ref D :: bm, [_, _, _, _, some (.builtin n), _] => (D == C && n == "ValueError.__new__") && ((!cd.hasDel && cd.hasDict) && PySem.HandSPX.refsVE bm)
    | _, _ => false)
  | _ => false
def oxB (K : PySem.W.Frag) (C : Addr) : Bool :=
  (xcB K C && PySem.W.keepIn K (.ref C)) && (decide (PySem.W.findIn K (.ref C) "__setattr__" = some (some (.builtin "object.__setattr__"))) && decide (PySem.W.typeIn K (.ref C) = some (.type "type")))
def icB (K : PySem.W.Frag) (C : Addr) : Bool :=
  ((PySem.W.clsIn K C).isSome && xfB K C) && ((decide (PySem.W.findIn K (.ref C) "__class__" = some (some (.builtin "object.__class__"))) && decide (PySem.W.specialIn K (.builtin "object.__class__") "__get__" = some (some (.builtin "getset_descriptor.__get__")))) &&
    (decide (PySem.W.takesIn K (.builtin "object.__class__") = some true) && decide (PySem.W.mroIn K C (.type "object") = some true)))
def exB (K : PySem.W.Frag) (C : Addr) (fs : List Str) : Bool := (oxB K C && icB K C) && fs.all fun f => decide (PySem.W.findIn K (.ref C) f = some none)
structure IcC (K : PySem.W.Frag) (C : Addr) : Prop where
  cl : (PySem.W.clsIn K C).isSome = true
  xf : XfC K C
  ha : PySem.W.findIn K (.ref C) "__class__" = some (some (.builtin "object.__class__"))
  hn : PySem.W.specialIn K (.builtin "object.__class__") "__get__" = some (some (.builtin "getset_descriptor.__get__"))
  ht : PySem.W.takesIn K (.builtin "object.__class__") = some true
  hm : PySem.W.mroIn K C (.type "object") = some true
theorem icB_ok {K : PySem.W.Frag} {C : Addr} (h : icB K C = true) : IcC K C := by
  unfold icB at h
  simp only [Bool.and_eq_true, decide_eq_true_eq] at h
  obtain ⟨⟨h1, h2⟩, ⟨h3, h4⟩, h5, h6⟩ := h
  exact ⟨h1, xfB_ok h2, h3, h4, h5, h6⟩
structure ExF (K : PySem.W.Frag) (C : Addr) (fs : List Str) : Prop where
  ox : OexC K C
  ic : IcC K C
  no : ∀ f ∈ fs, PySem.W.findIn K (.ref C) f = some none
theorem exB_ok {K : PySem.W.Frag} {C : Addr} {fs : List Str} (h : exB K C fs = true) : ExF K C fs := by
  unfold exB at h
  rw [Bool.and_eq_true, Bool.and_eq_true] at h
  obtain ⟨⟨h1, h2⟩, h3⟩ := h
  have I := icB_ok h2
  refine ⟨?_, I, fun f hf => of_decide_eq_true (List.all_eq_true.mp h3 f hf)⟩
  unfold oxB at h1
  simp only [Bool.and_eq_true, decide_eq_true_eq] at h1
  obtain ⟨⟨q, hk⟩, hs, ht⟩ := h1
  refine ⟨?_, hs, I.xf.exC, ht, hk⟩
  unfold xcB at q
  split at q
  · rename_i dd cd sl ho
    split at q
    · rename_i D bm m0 m1 m2 m3 n m5 hm hl
      simp only [Bool.and_eq_true, beq_iff_eq, Bool.not_eq_true'] at q
      obtain ⟨⟨rfl, rfl⟩, ⟨hdel, hdct⟩, hr⟩ := q
      obtain ⟨nm, bs, mro, ns, qn, hd, sn, sub, ab, col, del⟩ := cd
      dsimp only at hm hdel hdct
      subst hm hdel hdct
      have e : sl = #[m0, m1, m2, m3, some (.builtin "ValueError.__new__"), m5] := by
        obtain ⟨l⟩ := sl
        simp only at hl
        rw [hl]
      subst e
      exact ⟨nm, qn, ns, bs, bm, sn, sub, ab, col, dd, m0, m1, m2, m3, m5, ho, hr⟩
    · cases q
  · cases q
/-- the class at B over which they stand -/
structure BaseC (K : PySem.W.Frag) (B : Addr) : Prop where
  rd : PySem.W.readsIn K B (.type "type") = true
  ga : PySem.W.specialIn K (.ref B) "__getattribute__" = some (some (.builtin "type.__getattribute__"))
  at_ : PySem.W.findCls K (.ref B) (.type "type") "__init__" = some (.val (.builtin "ValueError.__init__"))
def baseB (K : PySem.W.Frag) (B : Addr) : Bool := PySem.W.readsIn K B (.type "type") && (decide (PySem.W.specialIn K (.ref B) "__getattribute__" = some (some (.builtin "type.__getattribute__"))) && (match PySem.W.findCls K (.ref B) (.type "type") "__init__" with | some (.val (.builtin n)) => n == "ValueError.__init__" | _ => false))
theorem baseB_ok {K : PySem.W.Frag} {B : Addr} (h : baseB K B = true) : BaseC K B := by
  unfold baseB at h
  simp only [Bool.and_eq_true, decide_eq_true_eq] at h
  obtain ⟨h1, h2, h3⟩ := h
  split at h3
  · rename_i n e
    rw [beq_iff_eq] at h3
    subst h3
    exact ⟨h1, h2, e⟩
  · cases h3
section
variable {X : Cx} {a1 : Expr} {ar : List Expr} {ta : TA} {x : Str} {q1 q2 qc : Pos} {B : Addr}
theorem pe_binit {pl : Sem Bool} (hg : Gl X x) (hm : X.mg x = some (.ref B)) (T : BaseC X.K B) (ha : PA X (a1 :: ar) ta)
    (hcal : eval (.Call (.Attribute (.Name x q1) "__init__" q2) (a1 :: ar) [] qc) X.env = (eval (.Name x q1) X.env >>= fun ov => standAt q2.atName >>= fun _ => holding [ov] (getMethod ov "__init__" pl) >>= fun r => callWith qc r.1 r.2 (backTo qc (starEach (a1 :: ar) X.env)) (backToKw qc (keywordEach [] X.env))) := by rfl)
    (hst : starEach (a1 :: ar) X.env = (false, eval a1 X.env) :: starEach ar X.env := by rfl) (hps : (backTo qc (starEach ar X.env)).any (·.1) = false := by rfl) (hdb : (x == ("__debug__" : Str)) = false := by decide) :
    PE X (.Call (.Attribute (.Name x q1) "__init__" q2) (a1 :: ar) [] qc) (tVeI X.K ta) := by
  refine ⟨fun pins s σ H Q I h => ?_⟩
  refine PySem.W.methodCall_KW (ld_glob I hg hm ?_ hdb) hcal
  refine PySem.W.method_cls I.kIn T.ga (PySem.W.cls_value I.kIn T.rd T.at_ (by decide +kernel) ?_)
  show wpAny _ _ (callWith qc (Value.builtin "ValueError.__init__") [] (backTo qc (starEach (a1 :: ar) X.env)) []) _ _ _
  refine PyProof.Rows.callWith_method1 (thn (ha.run qc pins _ σ H _ (I.tok _) h) fun us s1 hh => ?_) hst hps
  obtain ⟨vs, H1, I1, r1, a, C, ws, ev, hl, OC, ea, q⟩ := hh
  subst ev
  cases r1 with
  | @cons _ u0 _ ur ra rr =>
    obtain rfl : u0 = Value.ref a := ra
    exact oinit_ok OC I1 ea (by rw [← Paired.length rr, sizeLine_eq]; omega) fun s' J => ⟨.non, H1, J, rfl, q⟩
/-- C(e, ..) as a value, its own __init__ keeping sp -/
def tMkV (C : Addr) (sp : Sp) (ta : TA) : TE := fun σ H Q => ta σ H fun vs H1 => vs.length ≤ 1000 ∧ ∀ a, H1 a = none → sp (.ref a :: vs) (upd H1 a (exo a C none)) (fun v H2 => v = .non ∧ Q (.ref a) H2) (fun _ _ _ => False)
theorem pe_mkv {CX : CXT} {C fI : Addr} {k : Nat} {fd : FuncData} {ps : List Str} {sp : Sp} (T : OexC X.K C) (iC : PySem.W.findIn X.K (.ref C) "__init__" = some (some (.ref fI))) (tI : PySem.W.typeIn X.K (.ref fI) = some (.type "function"))
    (F1 : FnOk X.prog X.w X.K X.mg X.base CX k fI fd ps sp) (hr : Room (k + 1) X.A) (hb : Binds X.K fd ps []) (hx : Passes CX X (fun _ _ _ => False)) (hg : Gl X x) (hm : X.mg x = some (.ref C)) (ha : PA X (a1 :: ar) ta)
    (hdb : (x == ("__debug__" : Str)) = false := by decide) (hst : starEach (a1 :: ar) X.env = (false, eval a1 X.env) :: starEach ar X.env := by rfl) (hps : (backTo qc (starEach ar X.env)).any (·.1) = false := by rfl) :
    PE X (.Call (.Name x q1) (a1 :: ar) [] qc) (tMkV C sp ta) := by
  refine ⟨fun pins s σ H Q I h => ?_⟩
  obtain ⟨nm, q, N, bs, bm, sn, sub, ab, col, dd, k0, k1, k2, k3, k5, hC, hbm⟩ := T.cls
  refine wpAny_Call_Name_kw (ld_glob I hg hm ?_ hdb)
  refine PySem.W.callWith_K (h₀ := X.base) I.ok.mod.kin T.kC (thn (ha.run qc pins s σ H _ I h) fun us s1 hh => ?_) hst hps
  obtain ⟨vs, H1, I1, r1, hz, qq⟩ := hh
  refine ⟨I1.kIn, ?_⟩
  show wpAny _ _ (call (.ref C) us) _ _ _
  obtain ⟨hp, g, dr, tk, os⟩ := s1
  have le1 : hp.objs.size ≤ hp.objs.size + 1 := Nat.le_succ _
  have hn : H1 (hp.objs.size + 1) = none := I1.hok.fresh le1
  have hq := qq (hp.objs.size + 1) hn
  have kep : ∀ b o, hp.get? b = some o → ((hp.push (PySem.W.kdv_tup us)).push (PySem.HandSPX.excO C hp.objs.size)).get? b = some o := fun b o z => Heap.get?_push_of_some _ (Heap.get?_push_of_some _ z)
  have hget : ((hp.push (PySem.W.kdv_tup us)).push (PySem.HandSPX.excO C hp.objs.size)).get? (hp.objs.size + 1) = some (PySem.HandSPX.excO C hp.objs.size) := by heap_get
  have J2 : Inv X pins σ (upd H1 (hp.objs.size + 1) (exo (hp.objs.size + 1) C none)) ⟨(hp.push (PySem.W.kdv_tup us)).push (PySem.HandSPX.excO C hp.objs.size), g, dr, tk, os⟩ :=
    I1.laid (t' := tk) (a := hp.objs.size + 1) (o := exo (hp.objs.size + 1) C none) (h' := (hp.push (PySem.W.kdv_tup us)).push (PySem.HandSPX.excO C hp.objs.size)) kep le1 (exo_ok hget)
  have rv2 : Vals (V.ref (hp.objs.size + 1) :: vs) (Value.ref (hp.objs.size + 1) :: us) := .cons rfl r1
  have hlen : (Value.ref (hp.objs.size + 1) :: us ++ []).length = ps.length := by
    have z := rv2.length
    rw [F1.len _ _ _ _ hq] at z
    rw [List.append_nil]
    exact z.symm
  have hus : us.length ≤ sizeLine := by
    rw [← Paired.length r1, sizeLine_eq]
    omega
  refine wpAny_call (PySem.HandSPX.call_own F.excBase_ValueError (fun Y => PySem.HandSPX.refsVE_contains Y bm hbm) (I1.kIn _ _ hC) (PySem.W.looks_findIn I1.kIn iC) (fun self => PySem.W.bind_fn I1.kIn self tI) hus ?_)
  have hbb := hb _ (Value.ref (hp.objs.size + 1) :: us) J2.kIn hlen
  rw [List.append_nil] at hbb
  refine codeAny_mono (F1.run _ X.stack _ _ ⟨Value.ref (hp.objs.size + 1) :: us, []⟩ (Value.ref (hp.objs.size + 1) :: us) _ _ (fun _ _ _ => False) (hr.make C us []) (J2.env0.make C us []) hbb rv2 hq) fun r s' hq' => ?_
  cases r with
  | error er => exact hx pins σ _ _ er s' J2 hq'
  | ok fl =>
    cases fl with
    | ret u =>
      obtain ⟨v, H2, os2, bare2, un2, hok2, rv, ev, q2⟩ := hq'
      subst ev
      exact ⟨rv, .ref _, H2, J2.call' (ch := []) os2 un2 hok2 bare2 (fun b z => absurd z (by simp)), rfl, q2⟩
    | next => exact False.elim hq'
    | brk => exact False.elim hq'
    | cont => exact False.elim hq'
/-- an error of the class at D stands at a -/
def ErrAt (H : Hp) (a D : Addr) : Prop := (∃ (d : Addr) (fs : List (Str × V)), H a = some (exo a D (some d)) ∧ H d = some (exd d fs)) ∨ H a = some (ExO (.ref D) a)
theorem err_inst {pins : List (Addr × Obj)} {σ : St} {H : Hp} {s : Shared} {a D : Addr} (I : Inv X pins σ H s) (h : ErrAt H a D) : ∃ ox od, PySem.W.InstAt s.heap a ox D od := by
  rcases h with ⟨d, fs, h1, h2⟩ | h1
  · obtain ⟨t1, ho⟩ := exo_at I.hok h1
    obtain ⟨mA, hns, _⟩ := exd_at I.hok h2
    obtain ⟨od, hod, _⟩ := lookIn_ns hns
    exact ⟨_, some od, ho, rfl, rfl, hod⟩
  · have z : ObjOk X.prog X.w H s.heap a (ExO (.ref D) a) := I.hok a _ h1
    obtain ⟨⟨oe, vs, e, zc, d, _⟩, _⟩ := z
    refine ⟨oe, none, e, zc.1, by unfold PySem.W.notCls; rw [d] <;> rfl, ?_⟩
    rw [zc.2]
    trivial
/-- isinstance(e, c) of such an error -/
def rIsX (K : PySem.W.Frag) : List V → Hp → VK → Prop := fun xs H Q => ∃ (a D : Addr) (c : V) (cv : Value) (b : Bool), xs = [.ref a, c] ∧ ClsV c cv ∧ IcC K D ∧ ErrAt H a D ∧ PySem.W.kitOne K (.ref D) cv = some b ∧ Q (.bl b) H
theorem call_isX : CallR X (.builtin "isinstance") (rIsX X.K) := by
  intro pins s σ H xs us Q I r h
  obtain ⟨a, D, c, cv, b, rfl, hcv, C, he, e, q⟩ := h
  cases r with
  | cons rx rr =>
    cases rr with
    | cons rt rn =>
      cases rn
      cases rx
      have ec := hcv.eq rt
      subst ec
      obtain ⟨ox, od, J⟩ := err_inst I he
      exact PySem.W.kia_one (PySem.W.kitx_exc C.cl C.xf.ga C.xf.gg C.xf.exC C.ha C.hn C.ht C.hm) I.kIn J e (fun z => nomatch z) fun tk => ⟨.bl b, H, I.kept (t' := tk) fun _ _ z => z, rfl, q⟩
/-- e.f of such an error -/
def tXfV (K : PySem.W.Frag) (f : Str) (te : TE) : TE := fun σ H Q => te σ H fun x H1 => ∃ (a C d : Addr) (fs : List (Str × V)) (v : V), x = .ref a ∧ XfC K C ∧ PySem.W.findIn K (.ref C) f = some none ∧ H1 a = some (exo a C (some d)) ∧ H1 d = some (exd d fs) ∧ fs.lookup f = some v ∧ Q v H1
theorem pe_xfv {e : Expr} {te : TE} {f : Str} (he : PE X e te) (hb : attributeBase e f X.env (eval e X.env) = eval e X.env := by rfl) : PE X (.Attribute e f qc) (tXfV X.K f te) := by
  refine ⟨fun pins s σ H Q I h => ?_⟩
  refine attr_of hb (thn (he.run pins s σ H _ I h) fun u s1 hh => ?_)
  obtain ⟨x, H1, I1, rx, a, C, d, fs, v, rfl, T, hno, ea, ed, l, q⟩ := hh
  obtain rfl : u = Value.ref a := rx
  obtain ⟨t1, ho⟩ := exo_at I1.hok ea
  obtain ⟨mA, hns, hr⟩ := exd_at I1.hok ed
  obtain ⟨od, hod, hl⟩ := lookIn_ns hns
  obtain ⟨u, hu, ru⟩ := RelO.some_of (v := v) (o := mA f) (by rw [← l]; exact hr f)
  have J : PySem.W.InstAt s1.heap a _ C (some od) := ⟨ho, rfl, rfl, hod⟩
  exact HandSPX.exc_get I1.kIn J T.ga T.gg T.exC (PySem.W.findObj_own T.hdC hno rfl (by rw [hl, hu])) (handed_of ru) ⟨v, H1, I1.tok _, ru, q⟩
/-- one rule or the other -/
theorem op_or2 {f : Value → Value → Sem Value} {r r' : R2} (h : OpR X f r) (h' : OpR X f r') : OpR X f (fun x y H Q => r x y H Q ∨ r' x y H Q) := by
  intro pins s σ H x y v u Q I rx ry q
  rcases q with q | q
  · exact h pins s σ H x y v u Q I rx ry q
  · exact h' pins s σ H x y v u Q I rx ry q
end
end L2
namespace L2
open PySem PySem.Spec PyProof.Rows
/-- what __init__ of such a class keeps: one field, two fields -/
def sp_err1 (C : Addr) (f : Str) : Sp := fun vs H Q _ => ∃ (a : Addr) (v : V), vs = [.ref a, v] ∧ H a = some (exo a C none) ∧ ∀ d H2, H d = none → d ≠ a → (∀ b, b ≠ a → b ≠ d → H2 b = H b) → H2 a = some (exo a C (some d)) → H2 d = some (exd d [(f, v)]) → Q .non H2
def sp_err2 (C : Addr) (f g : Str) : Sp := fun vs H Q _ => ∃ (a : Addr) (v w : V), vs = [.ref a, v, w] ∧ H a = some (exo a C none) ∧ ∀ d H2, H d = none → d ≠ a → (∀ b, b ≠ a → b ≠ d → H2 b = H b) → H2 a = some (exo a C (some d)) → H2 d = some (exd d [(g, w), (f, v)]) → Q .non H2
section
variable {K : PySem.W.Frag} {C a : Addr} {f g z : Str} {v w : V} {H : Hp} {Q : VK}
theorem err1_run (T : OexC K C) (n1 : PySem.W.findIn K (.ref C) f = some none) (ha : H a = some (exo a C none)) (k : ∀ d H2, H d = none → d ≠ a → (∀ b, b ≠ a → b ≠ d → H2 b = H b) → H2 a = some (exo a C (some d)) → H2 d = some (exd d [(f, v)]) → Q .non H2) :
    tSeq (tDrop (tVeI K (tCons (tVar 0) (tCons (tC (.str z)) tNil)))) (tOst K f (tVar 0) (tVar 1)) { nx := fun _ H' => Q .non H', rt := Q } [some (.ref a), some v] H := by
  refine ⟨_, rfl, a, C, _, rfl, (by show 1 ≤ 1000; omega), T, ha, _, rfl, _, rfl, a, C, rfl, T, n1, .inl ⟨ha, fun d hd hne => ?_⟩⟩
  refine k d _ hd hne (fun b h1 h2 => by rw [upd_ne h1, upd_ne h2]) upd_same ?_
  rw [upd_ne hne, upd_same]
theorem err2_run (T : OexC K C) (n1 : PySem.W.findIn K (.ref C) f = some none) (n2 : PySem.W.findIn K (.ref C) g = some none) (ha : H a = some (exo a C none)) (k : ∀ d H2, H d = none → d ≠ a → (∀ b, b ≠ a → b ≠ d → H2 b = H b) → H2 a = some (exo a C (some d)) → H2 d = some (exd d [(g, w), (f, v)]) → Q .non H2) :
    tSeq (tDrop (tVeI K (tCons (tVar 0) (tCons (tC (.str z)) tNil)))) (tSeq (tOst K f (tVar 0) (tVar 1)) (tOst K g (tVar 0) (tVar 2))) { nx := fun _ H' => Q .non H', rt := Q } [some (.ref a), some v, some w] H := by
  refine ⟨_, rfl, a, C, _, rfl, (by show 1 ≤ 1000; omega), T, ha, _, rfl, _, rfl, a, C, rfl, T, n1, .inl ⟨ha, fun d hd hne => ?_⟩⟩
  have e1 : upd (upd H d (exd d [(f, v)])) a (exo a C (some d)) d = some (exd d [(f, v)]) := by rw [upd_ne hne, upd_same]
  refine ⟨_, rfl, _, rfl, a, C, rfl, T, n2, .inr ⟨d, _, upd_same, e1, (by show 1 ≤ 900; omega), ?_⟩⟩
  refine k d _ hd hne (fun b h1 h2 => by rw [upd_ne h2, upd_ne h1, upd_ne h2]) ?_ upd_same
  rw [upd_ne hne.symm, upd_same]
theorem c_xfv {te : TE} {σ : St} (h : te σ H fun x H1 => ∃ (a C d : Addr) (fs : List (Str × V)) (v : V), x = .ref a ∧ XfC K C ∧ PySem.W.findIn K (.ref C) f = some none ∧ H1 a = some (exo a C (some d)) ∧ H1 d = some (exd d fs) ∧ fs.lookup f = some v ∧ Q v H1) : tXfV K f te σ H Q := h
/-- the same, what is asked told by one word -/
def MkE (C : Addr) (sp : Sp) (vs : List V) (H : Hp) (Q : VK) : Prop := vs.length ≤ 1000 ∧ ∀ a, H a = none → sp (.ref a :: vs) (upd H a (exo a C none)) (fun v H2 => v = .non ∧ Q (.ref a) H2) (fun _ _ _ => False)
theorem c_mkv {sp : Sp} {ta : TA} {σ : St} (h : ta σ H fun vs H1 => MkE C sp vs H1 Q) : tMkV C sp ta σ H Q := h
/-- an error of the class at C with these fields, at a, its dict at d -/
def Er (H : Hp) (a C d : Addr) (fs : List (Str × V)) : Prop := H a = some (exo a C (some d)) ∧ H d = some (exd d fs)
theorem Er.up {H H2 : Hp} {a C d : Addr} {fs : List (Str × V)} (h : Er H a C d fs) (e : Evl.Ex H H2) : Er H2 a C d fs := ⟨e _ _ h.1, e _ _ h.2⟩
theorem Er.at {H : Hp} {a C d : Addr} {fs : List (Str × V)} (h : Er H a C d fs) : ErrAt H a C := .inl ⟨d, fs, h.1, h.2⟩
theorem mkv1 (k : ∀ a d H2, H a = none → H d = none → Evl.Ex H H2 → Er H2 a C d [(f, v)] → Q (.ref a) H2) : MkE C (sp_err1 C f) [v] H Q := by
  refine ⟨by show 1 ≤ 1000; omega, fun a ha => ⟨a, v, rfl, upd_same, fun d H2 hd hne hk h1 h2 => ⟨rfl, ?_⟩⟩⟩
  rw [upd_ne hne] at hd
  refine k a d H2 ha hd (fun b o hb => ?_) ⟨h1, h2⟩
  have nb := ne_of_none hb ha
  rw [hk b nb (ne_of_none hb hd), upd_ne nb]
  exact hb
theorem mkv2 (k : ∀ a d H2, H a = none → H d = none → Evl.Ex H H2 → Er H2 a C d [(g, w), (f, v)] → Q (.ref a) H2) : MkE C (sp_err2 C f g) [v, w] H Q := by
  refine ⟨by show 2 ≤ 1000; omega, fun a ha => ⟨a, v, w, rfl, upd_same, fun d H2 hd hne hk h1 h2 => ⟨rfl, ?_⟩⟩⟩
  rw [upd_ne hne] at hd
  refine k a d H2 ha hd (fun b o hb => ?_) ⟨h1, h2⟩
  have nb := ne_of_none hb ha
  rw [hk b nb (ne_of_none hb hd), upd_ne nb]
  exact hb
end
end L2
namespace L2
open PySem PySem.Spec PyProof.Rows
/-- of the error classes Cs each is of itself alone, of B, of ValueError -/
def kinB (K : PySem.W.Frag) (Cs : List Addr) : Bool := (List.range Cs.length).all fun i => (List.range Cs.length).all fun j => match Cs[i]?, Cs[j]? with
  | some D, some C => decide (PySem.W.kitOne K (.ref D) (.ref C) = some (decide (i = j)))
  | _, _ => true
def famB (K : PySem.W.Frag) (B : Addr) (Cs : List Addr) : Bool := (Cs.all fun D => decide (PySem.W.kitOne K (.ref D) (.ref B) = some true) && (decide (PySem.W.kitOne K (.ref D) (.type "ValueError") = some true) && decide (PySem.W.kitOne K (.ref B) (.ref D) = some false))) && (decide (PySem.W.kitOne K (.ref B) (.type "ValueError") = some true) && kinB K Cs)
structure Fam (K : PySem.W.Frag) (B : Addr) (Cs : List Addr) : Prop where
  b : ∀ D ∈ Cs, PySem.W.kitOne K (.ref D) (.ref B) = some true
  v : ∀ D ∈ Cs, PySem.W.kitOne K (.ref D) (.type "ValueError") = some true
  n : ∀ D ∈ Cs, PySem.W.kitOne K (.ref B) (.ref D) = some false
  bv : PySem.W.kitOne K (.ref B) (.type "ValueError") = some true
  k : ∀ (i j : Nat) (D C : Addr), Cs[i]? = some D → Cs[j]? = some C → PySem.W.kitOne K (.ref D) (.ref C) = some (decide (i = j))
theorem famB_ok {K : PySem.W.Frag} {B : Addr} {Cs : List Addr} (h : famB K B Cs = true) : Fam K B Cs := by
  unfold famB at h
  rw [Bool.and_eq_true, Bool.and_eq_true] at h
  obtain ⟨h1, h2, h3⟩ := h
  have h1' := List.all_eq_true.mp h1
  simp only [Bool.and_eq_true, decide_eq_true_eq] at h1'
  refine ⟨fun D hD => (h1' D hD).1, fun D hD => (h1' D hD).2.1, fun D hD => (h1' D hD).2.2, of_decide_eq_true h2, fun i j D C hi hj => ?_⟩
  unfold kinB at h3
  have q := List.all_eq_true.mp (List.all_eq_true.mp h3 i (List.mem_range.mpr (List.getElem?_eq_some_iff.mp hi).1)) j (List.mem_range.mpr (List.getElem?_eq_some_iff.mp hj).1)
  rw [hi, hj] at q
  exact of_decide_eq_true q
theorem ErrAt.up {H H2 : Hp} {a D : Addr} (h : ErrAt H a D) (e : Evl.Ex H H2) : ErrAt H2 a D := by
  rcases h with ⟨d, fs, h1, h2⟩ | h1
  · exact .inl ⟨d, fs, e _ _ h1, e _ _ h2⟩
  · exact .inr (e _ _ h1)
theorem is_x {K : PySem.W.Frag} {H : Hp} {Q : VK} {a D : Addr} {c : V} {cv : Value} {b : Bool} (hc : ClsV c cv) (ic : IcC K D) (h : ErrAt H a D) (e : PySem.W.kitOne K (.ref D) cv = some b) (q : Q (.bl b) H) : rIsX K [.ref a, c] H Q := ⟨a, D, c, cv, b, rfl, hc, ic, h, e, q⟩
end L2

/-! ### more loops, more comparisons -/
namespace L2
open PySem PySem.Spec PyProof.Rows
section
variable {K : PySem.W.Frag} {σ : St} {H : Hp} {D : Ends} {Q : VK} {g : TG} {tb : TS} {tt : TT} {te : TE} {vs : List Nat} {ta : TA}
theorem c_forE (h : ta σ H fun ws H1 => ∃ a xs, ws = [.ref a] ∧ SqL K H1 a xs ∧ ForI (Ite K a) g tb D σ H1) : tFor (iEnum K ta) g tb D σ H := h
theorem c_lcZi (h : ta σ H fun ws H1 => ∃ a b xs ys, ws = [.ref a, .ref b] ∧ SqL K H1 a xs ∧ SqL K H1 b ys ∧ LcI (Itz K a b) g tt te vs σ H1 Q) : tLc (iZip K ta) g tt te vs σ H Q := h
/-- for i, x in enumerate(l) -/
theorem forE {a : Addr} {xs : List V} (Pv : Nat → St → Hp → Prop) (h0 : Pv 0 σ H) (hl : ∀ i σ' H', i ≤ xs.length → Pv i σ' H' → SqL K H' a xs)
    (hs : ∀ i x T σ' H', xs[i]? = some x → Pv i σ' H' → H' T = none → g (.ref T) σ' (upd H' T (.tup [.int (i : Nat), x])) fun σ2 H2 => tb { D with nx := Pv (i + 1), ct := Pv (i + 1), bk := D.nx } σ2 H2)
    (hd : ∀ σ' H', Pv xs.length σ' H' → D.nx σ' H') : ForI (Ite K a) g tb D σ H :=
  for_it walk_enum Pv h0 (fun i σ' H' hi p => hl i σ' H' hi p) (fun i v σ' H' H'' hi p y => by
    obtain ⟨T, x, z, rfl, hT, rfl, ex, ez⟩ := y
    cases ex
    exact hs i z T σ' H' ez p hT) hd
/-- [.. for x in l], each thing made so that P holds of it, whatever is done to the list or made behind it -/
theorem lcLP {a : Addr} {xs : List V} (P : Addr → Nat → V → Hp → Prop) (hst : ∀ D i y G G2, ExB D G G2 → P D i y G → P D i y G2) (hs : SqL K H a xs) (hn : xs.length ≤ 1000)
    (ht : ∀ (D : Addr) (i : Nat) (x : V), H D = none → xs[i]? = some x → ∀ H2, Evl.Ex H H2 → (∃ o, H2 D = some o) → ∀ (R : V → Hp → Prop) (N : Hp → Prop), (∀ y H3, Evl.Ex H2 H3 → P D i y H3 → R y H3) →
      g x (wipe σ vs) H2 fun σ2 H3 => wipe σ2 vs = wipe σ vs ∧ tt σ2 H3 fun c H4 => if c = true then te σ2 H4 fun y H5 => R y H5 else N H4)
    (k : ∀ ys p H2, ys.length = xs.length → (∀ i y, ys[i]? = some y → P p i y H2) → H p = none → Evl.Ex H H2 → H2 p = some (.lst ys) → Q (.ref p) H2) : LcI (Itl K a) g tt te vs σ H Q := by
  refine fun D hD => ?_
  have ex : ∀ {G : Hp} {o : HO}, Evl.Ex H G → Evl.Ex H (upd G D o) := fun e b u hb => by rw [upd_ne (ne_of_none hb hD)]; exact e b u hb
  refine lc_list (xs := xs) (fun i H' => i ≤ xs.length ∧ Evl.Ex H H' ∧ ∃ ys, ys.length = i ∧ (∀ j y, ys[j]? = some y → P D j y H') ∧ H' D = some (.lst ys))
    ⟨Nat.zero_le _, ex (Evl.Ex.refl _), [], rfl, (fun j y h => by simp at h), upd_same⟩ (fun i H' _ p => Evl.ex_l p.2.1 hs) (fun i x H' hi p => ?_) (fun H' p => ?_)
  · obtain ⟨_, e1, ys, hl, hy, hD'⟩ := p
    have hil := (List.getElem?_eq_some_iff.mp hi).1
    refine ht D i x hD hi H' e1 ⟨_, hD'⟩ (fun y H4 => ∃ acc, H4 D = some (.lst acc) ∧ acc.length < sizeLine ∧ (i + 1 ≤ xs.length ∧ Evl.Ex H (upd H4 D (.lst (acc ++ [y]))) ∧ ∃ zs, zs.length = i + 1 ∧ (∀ j y2, zs[j]? = some y2 → P D j y2 (upd H4 D (.lst (acc ++ [y])))) ∧ upd H4 D (.lst (acc ++ [y])) D = some (.lst zs))) _ (fun y H3 e3 py => ?_)
    have eD : ExB D H3 (upd H3 D (.lst (ys ++ [y]))) := fun b o nb hb => by rw [upd_ne nb]; exact hb
    refine ⟨ys, e3 _ _ hD', Evl.sz_lt (by omega), hil, ex (e1.trans e3), ys ++ [y], by rw [List.length_append, hl]; rfl, fun j y2 hj => ?_, upd_same⟩
    rcases Nat.lt_or_ge j ys.length with h | h
    · rw [List.getElem?_append_left h] at hj
      exact hst _ _ _ _ _ eD (hst _ _ _ _ _ (fun b o _ hb => e3 b o hb) (hy j y2 hj))
    · rw [List.getElem?_append_right h] at hj
      have hj0 : j - ys.length = 0 := by
        have := (List.getElem?_eq_some_iff.mp hj).1
        rw [List.length_singleton] at this
        omega
      rw [hj0] at hj
      have hyy : y = y2 := by simpa using hj
      subst hyy
      have : j = i := by omega
      subst this
      exact hst _ _ _ _ _ eD py
  · obtain ⟨_, e1, ys, hl, hy, hD'⟩ := p
    exact k ys D H' hl hy hD e1 hD'
/-- what stands outside of S stays -/
def ExS (S : Addr → Prop) (H H2 : Hp) : Prop := ∀ a o, ¬ S a → H a = some o → H2 a = some o
theorem ExS.refl {S : Addr → Prop} (H : Hp) : ExS S H H := fun _ _ _ h => h
theorem ExS.trans {S : Addr → Prop} {H H2 H3 : Hp} (h : ExS S H H2) (k : ExS S H2 H3) : ExS S H H3 := fun a o n q => k a o n (h a o n q)
theorem ExS.of {S : Addr → Prop} {H H2 : Hp} (h : Evl.Ex H H2) : ExS S H H2 := fun a o _ q => h a o q
/-- [f(x, y) for x, y in zip(l, m)], where each answer is True, and only what is in S may change -/
theorem lcZ {S : Addr → Prop} {a b : Addr} {xs ys : List V} (J : Nat → Hp → Prop) (hab : xs.length = ys.length) (hn : xs.length ≤ 1000) (ha : ∀ G, ExS S H G → SqL K G a xs) (hb : ∀ G, ExS S H G → SqL K G b ys) (h0 : J 0 H) (hJ : ∀ i G D o, H D = none → J i G → J i (upd G D o)) (hS : ∀ z, S z → H z ≠ none)
    (ht : ∀ (i : Nat) (x y : V), xs[i]? = some x → ys[i]? = some y → ∀ H2 T, ExS S H H2 → J i H2 → H2 T = none → ∀ (R : V → Hp → Prop) (N : Hp → Prop), (∀ H3, ExS S (upd H2 T (.tup [x, y])) H3 → J (i + 1) H3 → R (.bl true) H3) →
      g (.ref T) (wipe σ vs) (upd H2 T (.tup [x, y])) fun σ2 H3 => wipe σ2 vs = wipe σ vs ∧ tt σ2 H3 fun c H4 => if c = true then te σ2 H4 fun y H5 => R y H5 else N H4)
    (k : ∀ p H2, H p = none → ExS S H H2 → J xs.length H2 → H2 p = some (.lst (List.replicate xs.length (.bl true))) → Q (.ref p) H2) : LcI (Itz K a b) g tt te vs σ H Q := by
  refine fun D hD => ?_
  have nSD : ¬ S D := fun z => hS D z hD
  have ex : ∀ {G : Hp} {o : HO}, ExS S H G → ExS S H (upd G D o) := fun e c u nc hc => by rw [upd_ne (ne_of_none hc hD)]; exact e c u nc hc
  refine lc_it (walk_zip (xs := xs) (ys := ys) (n := xs.length) (by omega)) (fun i H' => i ≤ xs.length ∧ ExS S H H' ∧ J i H' ∧ H' D = some (.lst (List.replicate i (.bl true)))) ⟨Nat.zero_le _, ex (ExS.refl _), hJ _ _ _ _ hD h0, upd_same⟩ (fun i H' _ p => ⟨ha _ p.2.1, hb _ p.2.1⟩) (fun i v H' H'' hi p y => ?_) (fun H' p => k D H' hD p.2.1 p.2.2.1 p.2.2.2)
  obtain ⟨T, x, z, rfl, hT, rfl, ex1, ez⟩ := y
  obtain ⟨_, e1, j1, hD'⟩ := p
  have nTD : D ≠ T := ne_of_none hD' hT
  refine ht i x z ex1 ez H' T e1 j1 hT (fun y H4 => ∃ acc, H4 D = some (.lst acc) ∧ acc.length < sizeLine ∧ (i + 1 ≤ xs.length ∧ ExS S H (upd H4 D (.lst (acc ++ [y]))) ∧ J (i + 1) (upd H4 D (.lst (acc ++ [y]))) ∧ upd H4 D (.lst (acc ++ [y])) D = some (.lst (List.replicate (i + 1) (.bl true))))) _ (fun H3 e3 j3 => ?_)
  refine ⟨_, e3 D _ nSD (by rw [upd_ne nTD]; exact hD'), ?_, hi, ex ?_, hJ _ _ _ _ hD j3, ?_⟩
  · rw [List.length_replicate]
    exact Evl.sz_lt (by omega)
  · refine fun c o nc hc => e3 c o nc ?_
    have h1 := e1 c o nc hc
    rw [upd_ne (ne_of_none h1 hT)]
    exact h1
  · rw [upd_same, List.replicate_succ'] <;> rfl
end
/-! == and != of dicts of flat things -/
def eqK (ks ls : List (Key × V)) : Bool := ks.length == ls.length && ks.all fun p => match valV ls p.1 with
  | some u => eqV p.2 u
  | none => false
section
variable {X : Cx} {pins : List (Addr × Obj)} {σ : St} {H : Hp} {s : Shared}
theorem hitsK (I : Inv X pins σ H s) (hu : X.A.units + 66 < cLine) {ls : List (Key × V)} {vb : List (Key × Value)} (rb : KV ls vb) (fl : ∀ k u, valV ls k = some u → okV u = true) {ks : List (Key × V)} {va : List (Key × Value)} (ra : KV ks va) (fk : ∀ p ∈ ks, okV p.2 = true) :
    PySem.W.KeqHits X.A.in1 s vb va (ks.all fun p => match valV ls p.1 with | some u => eqV p.2 u | none => false) := by
  unfold KV at ra
  induction ra with
  | nil => exact .nil
  | @cons p q ps qs h t ih =>
    obtain ⟨key, v⟩ := q
    obtain ⟨h1, h2⟩ := h
    have h1' : p.1 = key := h1
    have ih' := ih fun p' hm => fk p' (List.mem_cons_of_mem _ hm)
    rw [List.all_cons]
    have rr : RelO (valV ls p.1) (PySem.valueAt vb p.1) := rb.val p.1
    rw [h1'] at rr ⊢
    cases e : valV ls key with
    | none =>
      rw [e] at rr
      cases e2 : PySem.valueAt vb key with
      | none => exact .miss e2
      | some y =>
        rw [e2] at rr
        exact rr.elim
    | some u =>
      rw [e] at rr
      obtain ⟨y, hy, ry⟩ := rr.some_of
      have fp := fk p List.mem_cons_self
      have fu := fl key u e
      obtain ⟨as, r1⟩ := Dp.reads I (dOf p.2) p.2 v (dp_flat (okV_flat fp)) h2
      obtain ⟨bs, r2⟩ := Dp.reads I (dOf u) u y (dp_flat (okV_flat fu)) ry
      have z := PySem.W.keq_at (A := X.A) r1 r2 (shaped_flat fp) (shaped_flat fu) (by show X.A.units + 1 + 64 < cLine; omega)
      rw [eqv_flat (okV_flat fp) (okV_flat fu)] at z
      exact .hit hy z ih'
def rEqK : R2 := fun x y H Q => ∃ (a b : Addr) (ks ls : List (Key × V)), x = .ref a ∧ y = .ref b ∧ H a = some (.dK ks) ∧ H b = some (.dK ls) ∧ (∀ p ∈ ks, okV p.2 = true) ∧ (∀ k u, valV ls k = some u → okV u = true) ∧ Q (.bl (eqK ks ls)) H
def rNeK : R2 := fun x y H Q => ∃ (a b : Addr) (ks ls : List (Key × V)), x = .ref a ∧ y = .ref b ∧ H a = some (.dK ks) ∧ H b = some (.dK ls) ∧ (∀ p ∈ ks, okV p.2 = true) ∧ (∀ k u, valV ls k = some u → okV u = true) ∧ Q (.bl (!eqK ks ls)) H
theorem op_eqK (hu : X.A.units + 66 < cLine) : OpR X (compareOp .Eq) rEqK := by
  intro pins s σ H x y v u Q I rx ry h
  obtain ⟨a, b, ks, ls, rfl, rfl, ha, hb, fk, fl, q⟩ := h
  cases (show v = Value.ref a from rx)
  cases (show u = Value.ref b from ry)
  obtain ⟨_, ya, va, ra, da⟩ := (show ObjOk X.prog X.w H s.heap a (.dK ks) from I.hok a _ ha)
  obtain ⟨_, yb, vb, rb, db⟩ := (show ObjOk X.prog X.w H s.heap b (.dK ls) from I.hok b _ hb)
  refine PySem.W.keq_eq (knd := mixKind X.prog X.w) ya yb da db (by omega) (fun _ => hitsK I hu rb fl ra fk) ?_
  rw [← ra.length, ← rb.length]
  exact ⟨.bl _, H, I, rfl, q⟩
theorem op_neK (hu : X.A.units + 66 < cLine) : OpR X (compareOp .NotEq) rNeK := by
  intro pins s σ H x y v u Q I rx ry h
  obtain ⟨a, b, ks, ls, rfl, rfl, ha, hb, fk, fl, q⟩ := h
  cases (show v = Value.ref a from rx)
  cases (show u = Value.ref b from ry)
  obtain ⟨_, ya, va, ra, da⟩ := (show ObjOk X.prog X.w H s.heap a (.dK ks) from I.hok a _ ha)
  obtain ⟨_, yb, vb, rb, db⟩ := (show ObjOk X.prog X.w H s.heap b (.dK ls) from I.hok b _ hb)
  refine PySem.W.keq_ne (knd := mixKind X.prog X.w) ya yb da db (by omega) (fun _ => hitsK I hu rb fl ra fk) ?_
  rw [← ra.length, ← rb.length]
  exact ⟨.bl _, H, I, rfl, q⟩
end
theorem hu66 {A : Around} {k : Nat} (hr : Room k A) : A.units + 66 < cLine := by have := hr.un; omega
end L2

/-! ### defs that may show things by repr: no repr stands above them -/
namespace L2
open PySem PySem.Spec PyProof.Rows
/-- FnOk where nothing is being shown yet -/
structure FnG (P : Program) (w : World) (K : PySem.W.Frag) (mg : Str → Option Value) (base : Heap) (CX : CXT) (k : Nat) (f : Addr) (fd : FuncData) (ps : List Str) (sp : Sp) : Prop where
  len : ∀ vs H Q E, sp vs H Q E → vs.length = ps.length
  run : ∀ (A : Around) (outer : List Env) (s : Shared) (H : Hp) (args : Args) (us : List Value) (vs : List V) (Q : VK) (E : XK), A.guards = some [] → Room k A → Env0 P w K mg base A outer s H → BindsTo s fd args (ps.zip us) → Vals vs us → sp vs H Q E →
    codeAny (model P w) A (.call (.ref f) args) (CR CX outer P w H s Q E) s
section
variable {P : Program} {w : World} {K : PySem.W.Frag} {mg : Str → Option Value} {base : Heap} {CX : CXT} {k : Nat} {f : Addr} {fd : FuncData} {ps : List Str} {sp : Sp}
theorem FnOk.g (F : FnOk P w K mg base CX k f fd ps sp) : FnG P w K mg base CX k f fd ps sp := ⟨F.len, fun A o s H ar us vs Q E _ => F.run A o s H ar us vs Q E⟩
theorem deeper_guards {A : Around} {env : Env} : (A.deeper env).guards = A.guards := by
  first
    | rfl
    | simp [Around.deeper]
end
section
variable {P : Program} {w : World} {K : PySem.W.Frag} {mg : Str → Option Value} {base : Heap}
/-- a def by its body, as Fun.ok, the body told that nothing is being shown -/
theorem Fun.okG {x qual : Str} {st : Stmt} {f : Addr} {fd : FuncData} {N ps : List Str} {k : Nat} {sp : Sp} (F : Fun K x qual st f fd) (S : FnScope N ps (defScope st)) (len : ∀ vs H Q E, sp vs H Q E → vs.length = ps.length)
    (hb : ∀ (cdv : Value) (A : Around) (outer : List Env) (s : Shared) (H : Hp) (vs : List V) (Q : VK) (E : XK), A.guards = some [] → Room k (A.deeper (envOfC qual (defScope st) s.heap.objs.size f cdv)) → sp vs H Q E →
      ∃ t, PSs (cxOf CX0 P w K mg base N qual (defScope st) f cdv A outer s H E).nox (defBody st) t ∧ t { nx := fun _ H' => Q .non H', rt := Q } (start N vs) H) : FnG P w K mg base CX0 (k + 1) f fd ps sp := by
  obtain ⟨oc, od, kV, doc, pm, an, cdv, ct, osl, rfl, lk, hcd⟩ := F.ex
  refine ⟨len, fun A outer s H args us vs Q E hgd hr env0 bnd rel hsp => ?_⟩
  have hlv := len _ _ _ _ hsp
  have kin : K.In s.heap := env0.mod.kin.keeps fun b o z => (env0.bs b o z).1
  have nol : s.heap.NoLimit := env0.mod.nolimit.keeps fun b o z => (env0.bs b o z).1
  have knd : ∀ y ∈ ps.zip us, (defScope st).names.lookup y.1 = some .local ∨ ((defScope st).names.lookup y.1 = some .cell ∧ ((cellsFrom (s.heap.objs.size + 1) (defScope st).names []).lookup y.1).isSome = true) := by
    rintro ⟨n, v⟩ hy
    rcases S.par n (List.of_mem_zip hy).1 with q | q
    · exact .inl q
    · exact .inr ⟨q, PySem.W.cellsFrom_some _ _ _ (.inl q)⟩
  refine codeAny_call_function hr.depth (kin _ _ lk) rfl S.co S.gen rfl (PySem.W.codeRec_of kin hcd) (bnd _ _ _ _ ?_)
  refine wpAny_newFunctionEnv_cells S.kind knd fun env henv s1 ic => ?_
  subst henv
  refine ⟨nol.keeps ic.toInCall.keep, codeAny_func ?_⟩
  obtain ⟨t, ht0, hq⟩ := hb cdv A outer s H vs Q E hgd (hr.deeper _) hsp
  have ht := ht0.nox
  have J0 : Inv (cxOf CX0 P w K mg base N qual (defScope st) f cdv A outer s H E) [] (start N vs) H s1 := inv_start S hr.hd env0 hlv rel ic
  refine wpAny_mono (ht.run [] s1 (start N vs) H _ J0 hq) (fun fl s' hs => ?_) fun _ _ z => z
  have done : ∀ {σ' : St} {H' : Hp} {v : V} {u : Value}, Inv (cxOf CX0 P w K mg base N qual (defScope st) f cdv A outer s H E) [] σ' H' s' → RelV v u → Q v H' → CE outer P w H s Q u s' :=
    fun {σ' H' v u} J r q => ⟨v, H', J.os, J.bare, J.base, J.hok, r, q⟩
  cases fl with
  | ret u => obtain ⟨v, σ', H', J, r, q⟩ := hs; exact done J r q
  | next => obtain ⟨σ', H', J, q⟩ := hs; exact done (v := V.non) (u := Value.none) J rfl q
  | brk => obtain ⟨_, _, _, q⟩ := hs; exact False.elim q
  | cont => obtain ⟨_, _, _, q⟩ := hs; exact False.elim q
end
section
variable {X : Cx} {CX : CXT} {k : Nat} {f : Addr} {fd : FuncData} {ps : List Str} {sp : Sp} {E : XK} {x : Str} {a1 : Expr} {ar : List Expr} {ta : TA} {q1 qc : Pos}
theorem run_fnG {pins : List (Addr × Obj)} {σ : St} {H : Hp} {s : Shared} {Q : VK} {us : List Value} {vs : List V} (hgd : X.A.guards = some []) (F : FnG X.prog X.w X.K X.mg X.base CX k f fd ps sp) (hr : Room k X.A) (hb : Binds X.K fd ps []) (hx : Passes CX X E)
    (I : Inv X pins σ H s) (r : Vals vs us) (h : sp vs H Q E) : wpAny (model X.prog X.w) X.A (call (.ref f) us) (EP X pins σ Q) X.xe s := by
  have hl : (us ++ []).length = ps.length := by
    rw [List.append_nil, ← r.length]
    exact F.len _ _ _ _ h
  have bb := hb s us I.kIn hl
  rw [List.append_nil] at bb
  refine wpAny_call (codeAny_mono (F.run X.A X.stack s H ⟨us, []⟩ us vs Q E hgd hr I.env0 bb r h) fun rs s' hq => ?_)
  cases rs with
  | error er => exact hx pins σ H s er s' I hq
  | ok fl =>
    cases fl with
    | ret u => exact I.after hq
    | next => exact False.elim hq
    | brk => exact False.elim hq
    | cont => exact False.elim hq
theorem pe_callG (hgd : X.A.guards = some []) (F : FnG X.prog X.w X.K X.mg X.base CX k f fd ps sp) (hr : Room k X.A) (hg : Gl X x) (hm : X.mg x = some (.ref f)) (hk : PySem.W.keepIn X.K (.ref f) = true) (hb : Binds X.K fd ps []) (hx : Passes CX X E) (ha : PA X (a1 :: ar) ta)
    (hdb : (x == ("__debug__" : Str)) = false := by decide) (hst : starEach (a1 :: ar) X.env = (false, eval a1 X.env) :: starEach ar X.env := by rfl) (hps : (backTo qc (starEach ar X.env)).any (·.1) = false := by rfl) :
    PE X (.Call (.Name x q1) (a1 :: ar) [] qc) (tCall sp [] E ta) := by
  refine ⟨fun pins s σ H Q I h => ?_⟩
  refine wpAny_Call_Name_kw (ld_glob I hg hm ?_ hdb)
  refine PySem.W.callWith_K (h₀ := X.base) I.ok.mod.kin hk (thn (ha.run qc pins s σ H _ I h) fun us s1 hh => ?_) hst hps
  obtain ⟨vs, H1, I1, r, q⟩ := hh
  rw [List.append_nil] at q
  exact ⟨I1.kIn, run_fnG hgd F hr hb hx I1 r q⟩
/-- repr of a thing made of flat things, lists, tuples -/
def rRepr (K : PySem.W.Frag) : List V → Hp → VK → Prop := fun xs H Q => ∃ (a : Addr) (d : PyData), xs = [.ref a] ∧ Dp K H (.ref a) d ∧ d.showable = true ∧ d.hasDict = false ∧ d.depth ≤ 60 ∧ d.shown.length ≤ sizeLine ∧ Q (.str d.shown) H
theorem call_reprD {n : Nat} (hgd : X.A.guards = some []) (hr : Room n X.A) : CallR X (.builtin "repr") (rRepr X.K) := by
  intro pins s σ H xs us Q I r h
  obtain ⟨a, d, rfl, hd, hs, hnd, hdp, hz, q⟩ := h
  cases r with
  | cons ra rr =>
    cases rr
    rename_i u
    cases (show u = Value.ref a from ra)
    obtain ⟨as, rd⟩ := Dp.reads I d _ _ hd rfl
    have hun := hr.un
    refine repr_of_reads' rd hs (fun z => by rw [hnd] at z; cases z) hgd (by omega) (fun _ _ z => z) (fun h' u tk hk => ?_) hz
    exact ⟨.str d.shown, H, I.kept (t' := tk) hk, ⟨_, rfl⟩, q⟩
end
end L2
namespace L2
open PySem PySem.Spec PyProof.Rows
theorem caller_guards : callerA.guards = some [] := rfl
/-- the law's call, as law_call, the promise over A with nothing shown -/
theorem law_callG {P : Program} {w : World} {K : PySem.W.Frag} {mg mb : Str → Option Value} {CX : CXT} {k : Nat} {fa a : Addr} {fd : FuncData} {x : Str} {sp : Sp} {z1 : Shared} {vs : List Value} {ns : List Int}
    (kin : K.In z1.heap) (hns : z1.heap.Ns mainGlobals mg) (hbn : z1.heap.Ns builtinsNs mb) (hbb : ∀ y : Str, y ≠ "__name__" → mb y = bootBuiltins y) (hlim : z1.heap.NoLimit) (hgen : z1.gens = #[])
    (hscr : z1.heap.get? a = some { cls := .type "list", data := .seq vs.toArray }) (hi : IntsAre vs ns) (hl : ns.length ≤ sizeLine) (hr : Room k callerA)
    (F : ∀ base : Heap, K.In base → base.Ns mainGlobals mg → FnG P w K mg base CX k fa fd [x] sp) (hbind : ∀ (s : Shared) (u : Value), BindsTo s fd ⟨[u], []⟩ [(x, u)])
    (hsp : ∀ H : Hp, Only H → SqL K H a (ns.map V.int) → sp [.ref a] H (fun v _ => v = .bl true) fun _ _ _ => False) (hCX : ∀ H e s', CX [] H z1 (fun _ _ _ => False) e s' → False) :
    codeAny (model P w) callerA (.call (.ref fa) ⟨[.ref a], []⟩) (fun r s' => r = .ok (.ret (.bool true)) ∧ OldK z1.heap s'.heap ∧ s'.os = z1.os ∧ AllBare s'.gens) z1 := by
  have rel := vals_ints hi
  have lenV := hi.length
  have core : ∀ H : Hp, Only H → SqL K H a (ns.map V.int) → HOk P w H z1.heap → (∀ b, H b ≠ none → b = a) → (H a ≠ none → K.lookup a = none) →
      codeAny (model P w) callerA (.call (.ref fa) ⟨[.ref a], []⟩) (fun r s' => r = .ok (.ret (.bool true)) ∧ OldK z1.heap s'.heap ∧ s'.os = z1.os ∧ AllBare s'.gens) z1 := by
    intro H hO hS hok hA hK
    have below : ∀ {b : Addr} {o : Obj}, z1.heap.get? b = some o → H b = none → (hidT z1.heap H).get? b = some o := fun q n => hidT_get q n
    have noDict : ∀ {b : Addr} {o : Obj} {es : Array DictEntry} {ep : Nat}, z1.heap.get? b = some o → o.data = .dict es ep → H b = none := by
      intro b o es ep q d
      cases hq : H b with
      | none => rfl
      | some u =>
        obtain rfl : b = a := hA b (by rw [hq]; simp)
        rw [hscr] at q
        cases q
        cases (show Data.seq vs.toArray _ = Data.dict es ep from d)
    have nsUp : ∀ {b : Addr} {m : Str → Option Value}, z1.heap.Ns b m → (hidT z1.heap H).Ns b m := by
      rintro b m ⟨o, es, ep, q, d, r⟩
      exact ⟨o, es, ep, below q (noDict q d), d, r⟩
    have kinB : K.In (hidT z1.heap H) := by
      intro b o q
      refine below (kin b o q) ?_
      cases hq : H b with
      | none => rfl
      | some u =>
        obtain rfl : b = a := hA b (by rw [hq]; simp)
        rw [hK (by rw [hq]; simp)] at q
        cases q
    have md : Mod K mg (hidT z1.heap H) := ⟨kinB, nsUp hns, ⟨mb, nsUp hbn, hbb⟩, let ⟨mc, h1, h2⟩ := hlim; ⟨mc, nsUp h1, h2⟩⟩
    have en0 : Env0 P w K mg (hidT z1.heap H) callerA [] z1 H := ⟨rfl, md, fun b o q => of_hidT q, Nat.le_of_eq (hidT_size _ _), trivial, fun b hb => absurd (show b ∈ ([] : List Addr) from hb) (by simp), hok, .of_eq hgen⟩
    refine codeAny_mono ((F _ kinB (nsUp hns)).run callerA [] z1 H ⟨[.ref a], []⟩ [.ref a] [.ref a] _ _ caller_guards hr en0 (hbind z1 (.ref a)) (.cons rfl .nil) (hsp H hO hS)) fun r s' h => ?_
    cases r with
    | error er => exact (hCX H er s' h).elim
    | ok fl =>
      cases fl with
      | next => exact False.elim h
      | brk => exact False.elim h
      | cont => exact False.elim h
      | ret u =>
        obtain ⟨v, H', hos, bare, un, hok', r', hv⟩ := h
        obtain rfl : v = .bl true := hv
        obtain rfl : u = Value.bool true := r'
        refine ⟨rfl, OldK.of_keep fun b o q => ?_, hos, bare⟩
        cases hq : H b with
        | none => exact un.keep b o q hq (fun z => absurd (show b ∈ ([] : List Addr) from z) (by simp)) (by simp)
        | some u =>
          rcases hO b with z | ⟨ob, xs, z⟩
          · rw [hq] at z
            cases z
          · obtain ⟨e1, _⟩ := hok b _ z
            obtain ⟨e2, _⟩ := hok' b _ (un.frzs b ob _ z)
            rw [q] at e1
            cases e1
            exact e2
  cases hk : K.lookup a with
  | some o =>
    have q := kin a o hk
    rw [hscr] at q
    cases q
    exact core (fun _ => none) (fun _ => .inl rfl) (.inr ⟨_, vs.toArray, _, hk, rfl, rfl, rfl, by rw [List.size_toArray, lenV]; exact hl, by simpa using rel⟩) (fun b u z => nomatch (show (none : Option HO) = some u from z)) (fun b z => absurd rfl z) (fun z => absurd rfl z)
  | none =>
    have hH : ∀ b, (if b = a then some (HO.frz { cls := .type "list", data := .seq vs.toArray } (.lst (ns.map V.int))) else none) ≠ none → b = a := fun b z => by
      by_cases hb : b = a
      · exact hb
      · exact absurd (if_neg hb) z
    refine core (fun b => if b = a then some (.frz { cls := .type "list", data := .seq vs.toArray } (.lst (ns.map V.int))) else none) (fun b => ?_) (.inl (.inr ⟨{ cls := .type "list", data := .seq vs.toArray }, if_pos rfl⟩)) (fun b u z => ?_) hH (fun _ => hk)
    · by_cases hb : b = a
      · exact .inr ⟨_, _, if_pos hb⟩
      · exact .inl (if_neg hb)
    · by_cases hb : b = a
      · cases (if_pos hb).symm.trans z
        subst hb
        exact ⟨hscr, by rw [List.length_map]; exact hl, vs, _, rel, hscr⟩
      · cases (if_neg hb).symm.trans z
theorem walk_ofG {l : PySem.W.OpenLaw} {n k : Nat} {q : Program} {loose : List Str} {XP : (Str → Option Value) → Heap → Prop} {YP : World → Heap → Prop} {d : DefRec} {K : Params → PySem.W.Frag} {CX : CXT} {sp : PySem.W.Frag → Sp} {x : Str}
    (hn : l.most = some n) (hn2 : n ≤ sizeLine) (hdf : d.params.defaults = []) (hr : Room k callerA) (hY : ∀ (w : World) (h : Heap), YP w h → (K w.params).In h)
    (F : ∀ (w : World) (mg : Str → Option Value) (fa : Addr) (h : Heap), (K w.params).In h → h.Ns mainGlobals mg → mg d.name = some (.ref fa) → ∃ fd : FuncData, (∀ (s : Shared) (u : Value), BindsTo s fd ⟨[u], []⟩ [(x, u)]) ∧
        ∀ base : Heap, (K w.params).In base → base.Ns mainGlobals mg → FnG l.prog w (K w.params) mg base CX k fa fd [x] (sp (K w.params)))
    (hsp : ∀ (K : PySem.W.Frag) (H : Hp) (a : Addr) (ns : List Int), ns.length ≤ n → Only H → SqL K H a (ns.map V.int) → sp K [.ref a] H (fun v _ => v = .bl true) fun _ _ _ => False) (hCX : ∀ (H : Hp) (s : Shared) (e : Value) (s' : Shared), CX [] H s (fun _ _ _ => False) e s' → False) :
    PySem.W.WalkO q loose XP YP l.row.toRowW d [] (fun f vs => PySem.call f vs) := by
  refine Att.attach_call hn hdf fun w s0 z1 mg mb fa o pm cd doc a vs ns G Y ho hd hcd hmg hobj hints hlen hg => ?_
  obtain ⟨fd, hb, hF⟩ := F w mg fa _ (hY w _ Y) G.T.g hmg
  exact law_callG (hY w _ Y) G.T.g G.T.b G.T.builtins G.T.nolimit hg hobj hints (Nat.le_trans hlen hn2) hr hF hb (fun H hO hS => hsp (K w.params) H a ns hlen hO hS) fun H e s' => hCX H z1 e s'
end L2

/-! ### own objects whose class is found by the object -/
namespace L2
open PySem PySem.Spec PyProof.Rows
/-- the method m of the class at C keeps sp, by a def of level k -/
structure MOk (P : Program) (w : World) (K : PySem.W.Frag) (mg : Str → Option Value) (base : Heap) (CX : CXT) (k : Nat) (C : Addr) (m : Str) (sp : Sp) : Prop where
  cl : Cls K C
  ex : ∃ (f : Addr) (fd : FuncData) (ps : List Str), Meth K C m f ∧ FnOk P w K mg base CX k f fd ps sp ∧ Binds K fd ps []
section
variable {X : Cx} {CX : CXT} {k : Nat} {sp : Addr → Sp} {E : XK} {m : Str} {o a1 : Expr} {ar : List Expr} {te : TE} {ta : TA} {qa qc : Pos} {M : Addr → Prop}
/-- o.m(), o of one of the classes M -/
def tMP (M : Addr → Prop) (m : Str) (sp : Addr → Sp) (E : XK) (te : TE) (ta : TA) : TE := fun σ H Q => te σ H fun x H1 => ∃ a C dx fs, x = .ref a ∧ H1 a = some (.ins C dx fs) ∧ M C ∧ fs.lookup m = none ∧ ta σ H1 fun vs H2 => sp C (x :: vs) H2 Q E
theorem pe_methP0 {pl : Sem Bool} (he : PE X o te) (hM : ∀ C, M C → MOk X.prog X.w X.K X.mg X.base CX k C m (sp C)) (hr : Room k X.A) (hx : Passes CX X E)
    (hcal : eval (.Call (.Attribute o m qa) [] [] qc) X.env = (eval o X.env >>= fun ov => standAt qa.atName >>= fun _ => holding [ov] (getMethod ov m pl) >>= fun r => callWith qc r.1 r.2 (backTo qc (starEach [] X.env)) (backToKw qc (keywordEach [] X.env))) := by rfl) :
    PE X (.Call (.Attribute o m qa) [] [] qc) (tMP M m sp E te tNil) := by
  refine ⟨fun pins s σ H Q I h => ?_⟩
  refine PySem.W.methodCall_KW (pl := pl) (thn (he.run pins s σ H _ I h) fun u s1 hh => ?_) hcal
  obtain ⟨x, H1, I1, rx, a, C, dx, fs, rfl, ea, hC, l, q⟩ := hh
  obtain rfl : u = Value.ref a := rx
  obtain ⟨cl, f, fd, ps, hm, F, hb⟩ := hM C hC
  refine getmeth_ok I1 ea cl hm l ?_
  exact PySem.W.callWith_K0 (first := [.ref a]) I1.kIn hm.kp (run_fn (us := [.ref a]) (vs := [.ref a]) (dvs := []) F hr hb .nil hx I1 (.cons rfl .nil) q)
theorem pe_methP {pl : Sem Bool} (he : PE X o te) (hM : ∀ C, M C → MOk X.prog X.w X.K X.mg X.base CX k C m (sp C)) (hr : Room k X.A) (hx : Passes CX X E) (ha : PA X (a1 :: ar) ta)
    (hst : starEach (a1 :: ar) X.env = (false, eval a1 X.env) :: starEach ar X.env := by rfl) (hps : (backTo qc (starEach ar X.env)).any (·.1) = false := by rfl)
    (hcal : eval (.Call (.Attribute o m qa) (a1 :: ar) [] qc) X.env = (eval o X.env >>= fun ov => standAt qa.atName >>= fun _ => holding [ov] (getMethod ov m pl) >>= fun r => callWith qc r.1 r.2 (backTo qc (starEach (a1 :: ar) X.env)) (backToKw qc (keywordEach [] X.env))) := by rfl) :
    PE X (.Call (.Attribute o m qa) (a1 :: ar) [] qc) (tMP M m sp E te ta) := by
  refine ⟨fun pins s σ H Q I h => ?_⟩
  refine PySem.W.methodCall_KW (pl := pl) (thn (he.run pins s σ H _ I h) fun u s1 hh => ?_) hcal
  obtain ⟨x, H1, I1, rx, a, C, dx, fs, rfl, ea, hC, l, q⟩ := hh
  obtain rfl : u = Value.ref a := rx
  obtain ⟨cl, f, fd, ps, hm, F, hb⟩ := hM C hC
  refine getmeth_ok I1 ea cl hm l ?_
  refine PySem.W.callWith_K (first := [.ref a]) (h₀ := X.base) I.ok.mod.kin hm.kp (thn (ha.run qc pins s1 σ H1 _ I1 q) fun us s2 h2 => ?_) hst hps
  obtain ⟨vs, H2, I2, r, q2⟩ := h2
  exact ⟨I2.kIn, run_fn (us := .ref a :: us) (vs := .ref a :: vs) (dvs := []) F hr hb .nil hx I2 (.cons rfl r) (by rw [List.append_nil]; exact q2)⟩
theorem c_mp {σ : St} {H : Hp} {Q : VK} (h : te σ H fun x H1 => ∃ a C dx fs, x = .ref a ∧ H1 a = some (.ins C dx fs) ∧ M C ∧ fs.lookup m = none ∧ ta σ H1 fun vs H2 => sp C (x :: vs) H2 Q E) : tMP M m sp E te ta σ H Q := h
def tNeverE : TE := fun _ _ _ => False
theorem pe_never {e : Expr} : PE X e tNeverE := ⟨fun _ _ _ _ _ _ h => h.elim⟩
end
end L2
namespace L2
open PySem PySem.Spec PyProof.Rows
section
variable {X : Cx}
theorem dpAll_int {K : PySem.W.Frag} {H : Hp} : ∀ ns : List Int, DpAll K H (ns.map V.int) (ns.map PyData.int)
  | [] => .nil
  | n :: ns => .cons (.int n) (dpAll_int ns)
/-- the greatest of these, and of the last one -/
def maxL : List Int → Int
  | [] => 0
  | y :: ys => PySem.W.maxOf y ys
/-- max(l, default=z), l of whole numbers -/
theorem call_maxD {n : Nat} (hr : Room n X.A) : CallRK X (.builtin "max") ["default"] (fun xs zs H Q => ∃ (a : Addr) (ns : List Int) (z : V), xs = [.ref a] ∧ zs = [z] ∧ SqL X.K H a (ns.map V.int) ∧ (ns = [] → Q z H) ∧ ∀ y ys, ns = y :: ys → Q (.int (PySem.W.maxOf y ys)) H) := by
  intro pins s σ H xs zs us ws Q I r rz h
  obtain ⟨a, ns, z, rfl, rfl, hS, h0, h1⟩ := h
  cases r with
  | cons ra rr =>
    cases rr
    rename_i u
    cases (show u = Value.ref a from ra)
    cases rz with
    | cons rz1 rzz =>
      cases rzz
      rename_i zu
      obtain ⟨its, rv, hp, hlen⟩ := I.list hS
      obtain ⟨as, rds⟩ := Dp.readsAll I _ _ its (dpAll_int ns) rv
      have hun := hr.un
      have hD : PySem.W.HoldAll s.heap its.toArray.toList ns := ⟨as, rds⟩
      refine PySem.W.max_list_datum_default (α := Int) hr.hd hp.isList hD (by show X.A.units + 1 + 0 < cLine; omega) (fun e h' tk hk => ?_) (fun y ys i v h' tk e hi hv hk => ?_)
      · exact ⟨z, H, I.kept (t' := tk) hk, rz1, h0 e⟩
      · obtain ⟨bs, rd⟩ := hv
        have hv2 : ∃ t, v = Value.int (PySem.W.maxOf y ys) t := by
          have rd' : Reads h' v (.int (PySem.W.maxOf y ys)) bs := rd
          cases rd' with
          | int i t => exact ⟨t, rfl⟩
        exact ⟨.int (PySem.W.maxOf y ys), H, I.kept (t' := tk) hk, hv2, h1 y ys e⟩
end
end L2
namespace L2
open PySem PySem.Spec PyProof.Rows
/-- a plain class with these fields, that can be made -/
def tcB (K : PySem.W.Frag) (C : Addr) (fs : List Str) : Bool :=
  ((PySem.W.plainGet K C Str.empty && PySem.W.hasDictIn K C) && (PySem.W.plainOver K C && (PySem.W.makesIn K C && PySem.W.keepIn K (.ref C)))) &&
  ((decide (PySem.W.findIn K (.ref C) "__setattr__" = some (some (.builtin "object.__setattr__"))) && decide (PySem.W.findIn K (.ref C) "__class__" = some (some (.builtin "object.__class__")))) &&
  ((decide (PySem.W.specialIn K (.builtin "object.__class__") "__get__" = some (some (.builtin "getset_descriptor.__get__"))) && decide (PySem.W.takesIn K (.builtin "object.__class__") = some true)) &&
  (decide (PySem.W.mroIn K C (.type "object") = some true) && fs.all fun f => decide (PySem.W.findIn K (.ref C) f = some none))))
structure TcC (K : PySem.W.Frag) (C : Addr) (fs : List Str) : Prop where
  cl : Cls K C
  makes : PySem.W.makesIn K C = true
  kp : PySem.W.keepIn K (.ref C) = true
  ty : ∀ {H : Hp} {a dx : Addr} {gs : List (Str × V)}, H a = some (.ins C dx gs) → TyX K H (.ref a) (.ref C)
  no : ∀ f ∈ fs, NoAttr K C f
theorem tcB_ok {K : PySem.W.Frag} {C : Addr} {fs : List Str} (h : tcB K C fs = true) : TcC K C fs := by
  unfold tcB at h
  simp only [Bool.and_eq_true, decide_eq_true_eq, List.all_eq_true] at h
  obtain ⟨⟨⟨h1, h2⟩, h3, h4, h5⟩, ⟨h6, h7⟩, ⟨h8, h9⟩, h10, h11⟩ := h
  have cl : Cls K C := ⟨h1, h2, h3, h6⟩
  exact ⟨cl, h4, h5, fun e => .base (.ins e cl h7 h8 h9 h10), h11⟩
section
variable {K : PySem.W.Frag} {σ : St} {H : Hp} {Q : VK} {D : Ends} {te tv : TE} {f : Str} {ta tk : TA} {C : Addr} {sp : Sp} {E : XK}
theorem c_fld (h : te σ H fun x H1 => ∃ a C dx fs v, x = .ref a ∧ H1 a = some (.ins C dx fs) ∧ Cls K C ∧ NoAttr K C f ∧ fs.lookup f = some v ∧ Q v H1) : tFld K te f σ H Q := h
theorem c_sfld (h : tv σ H fun y H1 => te σ H1 fun x H2 => ∃ a C dx fs, x = .ref a ∧ H2 a = some (.ins C dx fs) ∧ Cls K C ∧ NoAttr K C f ∧ fs.length < 1000 ∧ D.nx σ (upd H2 a (.ins C dx (putF f y fs)))) : sFld K te tv f D σ H := h
/-- C(..): what is asked, by one word -/
def MkP2 (C : Addr) (sp : Sp) (vs : List V) (H : Hp) (Q : VK) (E : XK) : Prop := ∀ x dx, H x = none → H dx = none → dx ≠ x → sp (.ref x :: vs) (upd (upd H dx (.own x)) x (.ins C dx [])) (fun v H2 => v = .non ∧ Q (.ref x) H2) E
theorem c_make (h : ta σ H fun vs H1 => MkP2 C sp vs H1 Q E) : tMake C sp [] E ta σ H Q := by
  show ta σ H fun vs H1 => ∀ x dx, H1 x = none → H1 dx = none → dx ≠ x → sp (.ref x :: (vs ++ [])) (upd (upd H1 dx (.own x)) x (.ins C dx [])) (fun v H2 => v = .non ∧ Q (.ref x) H2) E
  simp only [List.append_nil]
  exact h
theorem c_ckw {r : List V → List V → Hp → VK → Prop} (h : ta σ H fun vs H1 => tk σ H1 fun zs H2 => r vs zs H2 Q) : tCKw r ta tk σ H Q := h
end
end L2

/-! facts of classes, as truths -/
namespace L2
open PySem
def difB : List Addr → Bool
  | [] => true
  | a :: as => as.all (fun b => !decide (a = b)) && difB as
theorem difB_ne {a b : Addr} : ∀ {l : List Addr} {i j : Nat}, difB l = true → l[i]? = some a → l[j]? = some b → i < j → a ≠ b
  | [], i, j, _, h, _, _ => by simp at h
  | c :: l, i, j, h, hi, hj, hij => by
    rw [difB, Bool.and_eq_true, List.all_eq_true] at h
    cases j with
    | zero => omega
    | succ j =>
      rw [List.getElem?_cons_succ] at hj
      cases i with
      | zero =>
        have : c = a := by simpa using hi
        subst this
        have := h.1 b (List.mem_of_getElem? hj)
        intro e
        subst e
        simp at this
      | succ i =>
        rw [List.getElem?_cons_succ] at hi
        exact difB_ne h.2 hi hj (by omega)
/-- of class c, and with the plain == -/
def subB (K : PySem.W.Frag) (C c : Addr) : Bool := decide (PySem.W.kitOne K (.ref C) (.ref c) = some true) && (decide (PySem.W.mroIn K C (.type "object") = some true) && decide (PySem.W.findIn K (.ref C) "__eq__" = some (some (.builtin "object.__eq__"))))
end L2
namespace L2
open PySem
/-- each of these is of its own class and of E alone -/
def kitTab (K : PySem.W.Frag) (cs : List Addr) (E : Addr) : Bool := cs.all fun c => decide (PySem.W.kitOne K (.ref c) (.ref E) = some true) && (decide (PySem.W.mroIn K c (.type "object") = some true) && (decide (PySem.W.findIn K (.ref c) "__eq__" = some (some (.builtin "object.__eq__"))) && cs.all fun c' => decide (PySem.W.kitOne K (.ref c) (.ref c') = some (decide (c = c')))))
end L2

/-! ### repr of nested things: the bounds; comprehensions that make things -/
namespace L2
open PySem PySem.Spec PyProof.Rows
open TL (tl)
/-- may be shown: nested at most D deep, its signs and things at most B -/
def RpOk (D B : Nat) (d : PyData) : Prop := d.showable = true ∧ d.canLay0 = true ∧ d.leavesShort 13 = true ∧ d.depth ≤ D ∧ d.bulk ≤ B
def RpAll (D B : Nat) (ds : List PyData) : Prop := PyData.showableAll ds = true ∧ PyData.canLayAll0 ds = true ∧ PyData.leavesShortAll 13 ds = true ∧ PyData.depthAll ds ≤ D ∧ PyData.bulkAll ds ≤ B
theorem RpOk.mono {D B D2 B2 : Nat} {d : PyData} (h : RpOk D B d) (hD : D ≤ D2) (hB : B ≤ B2) : RpOk D2 B2 d := ⟨h.1, h.2.1, h.2.2.1, Nat.le_trans h.2.2.2.1 hD, Nat.le_trans h.2.2.2.2 hB⟩
theorem rp_non : RpOk 0 0 .none := ⟨by simp only [PyData.showable], by simp only [PyData.canLay0], by simp only [PyData.leavesShort], by simp only [PyData.depth]; omega, by simp only [PyData.bulk]; omega⟩
theorem rp_bl (b : Bool) : RpOk 0 0 (.bool b) := ⟨by simp only [PyData.showable], by simp only [PyData.canLay0], by simp only [PyData.leavesShort], by simp only [PyData.depth]; omega, by simp only [PyData.bulk]; omega⟩
theorem rp_int {i : Int} (h : i.natAbs < 10 ^ 12) : RpOk 0 0 (.int i) := by
  refine ⟨?_, by simp only [PyData.canLay0], ?_, by simp only [PyData.depth]; omega, by simp only [PyData.bulk]; omega⟩
  · simp only [PyData.showable, decide_eq_true_eq]
    by_cases h0 : i.natAbs = 0
    · rw [h0]; decide
    · have h1 : i.natAbs.log2 < 40 := (Nat.log2_lt h0).mpr (Nat.lt_trans h (by decide))
      omega
  · simp only [PyData.leavesShort, decide_eq_true_eq]
    exact PyData.shown_int_le h
theorem rp_str {x : Str} (h : OkT x) : RpOk 0 x.length (.str x) := by
  refine ⟨by simp only [PyData.showable], by simp only [PyData.canLay0]; exact okT_V h, ?_, by simp only [PyData.depth]; omega, by simp only [PyData.bulk]; exact Nat.le_refl _⟩
  simp only [PyData.leavesShort, List.all_eq_true, decide_eq_true_eq]
  exact fun c hc => Nat.lt_trans (h c hc) (by decide)
theorem rp_nil : RpAll 0 0 [] := ⟨by simp only [PyData.showableAll], by simp only [PyData.canLayAll0], by simp only [PyData.leavesShortAll], by simp only [PyData.depthAll]; omega, by simp only [PyData.bulkAll]; omega⟩
theorem rp_cons {D B D2 B2 : Nat} {d : PyData} {ds : List PyData} (h : RpOk D B d) (k : RpAll D2 B2 ds) : RpAll (max D D2) (B + 1 + B2) (d :: ds) := by
  obtain ⟨h1, h2, h3, h4, h5⟩ := h
  obtain ⟨k1, k2, k3, k4, k5⟩ := k
  refine ⟨by simp only [PyData.showableAll, h1, k1, Bool.and_self], by simp only [PyData.canLayAll0, h2, k2, Bool.and_self], by simp only [PyData.leavesShortAll, h3, k3, Bool.and_self], by simp only [PyData.depthAll]; omega, by simp only [PyData.bulkAll]; omega⟩
theorem rp_tup {D B : Nat} {ds : List PyData} (h : RpAll D B ds) : RpOk (D + 1) B (.tuple ds) := by
  obtain ⟨h1, h2, h3, h4, h5⟩ := h
  exact ⟨by simp only [PyData.showable, h1], by simp only [PyData.canLay0, h2], by simp only [PyData.leavesShort, h3], by simp only [PyData.depth]; omega, by simp only [PyData.bulk]; omega⟩
theorem rp_lst {D B : Nat} {ds : List PyData} (h : RpAll D B ds) : RpOk (D + 1) B (.list ds) := by
  obtain ⟨h1, h2, h3, h4, h5⟩ := h
  exact ⟨by simp only [PyData.showable, h1], by simp only [PyData.canLay0, h2], by simp only [PyData.leavesShort, h3], by simp only [PyData.depth]; omega, by simp only [PyData.bulk]; omega⟩
theorem rp_all {D B : Nat} : ∀ {ds : List PyData}, (∀ d ∈ ds, RpOk D B d) → RpAll D (ds.length * (B + 1)) ds
  | [], _ => ⟨by simp only [PyData.showableAll], by simp only [PyData.canLayAll0], by simp only [PyData.leavesShortAll], by simp only [PyData.depthAll]; omega, by simp only [PyData.bulkAll]; omega⟩
  | d :: ds, h => by
    obtain ⟨h1, h2, h3, h4, h5⟩ := rp_cons (h d List.mem_cons_self) (rp_all (ds := ds) fun e he => h e (List.mem_cons_of_mem _ he))
    refine ⟨h1, h2, h3, by omega, ?_⟩
    rw [List.length_cons, Nat.succ_mul]
    omega
theorem c_repr {K : PySem.W.Frag} {H : Hp} {Q : VK} {a : Addr} {d : PyData} {D B : Nat} (h : Dp K H (.ref a) d) (r : RpOk D B d) (q : Q (.str d.shown) H) (hD : D ≤ 60 := by decide) (hB : B ≤ 2 ^ 20 := by decide) : rRepr K [.ref a] H Q :=
  ⟨a, d, rfl, h, r.1, PyData.hasDict_of_canLay d r.2.1, Nat.le_trans r.2.2.2.1 hD, PyData.shown_fits_bulk (B := 13) (by decide) (by decide) r.2.2.1 (Nat.le_trans r.2.2.2.2 hB), q⟩
theorem BoxAt.up {H H2 : Hp} {b : Addr} (h : BoxAt H b) (e : Evl.Ex H H2) : BoxAt H2 b := let ⟨x, y, z, p, q⟩ := h; ⟨x, y, z, p, e _ _ q⟩
theorem RpOk.shaped {D B : Nat} {d : PyData} (h : RpOk D B d) (hD : D ≤ 64 := by decide) : SeqAt.shaped d = true := by
  unfold SeqAt.shaped
  rw [h.2.1, Bool.true_and, decide_eq_true_eq]
  exact Nat.le_trans h.2.2.2.1 hD
/-- s * n, n nought or one -/
theorem op_rep_str01 {X : Cx} : OpR X (binaryOp .Mult) (fun x y H Q => ∃ (z : Str) (n : Int), x = .str z ∧ y = .int n ∧ ((n = 0 ∧ Q (.str Str.empty) H) ∨ (n = 1 ∧ Q (.str z) H))) := by
  intro pins s σ H x y v u Q I rx ry h
  obtain ⟨z, n, rfl, rfl, h⟩ := h
  obtain ⟨t, rfl⟩ := rx
  obtain ⟨t', rfl⟩ := ry
  rcases h with ⟨rfl, q⟩ | ⟨rfl, q⟩
  · exact PySem.P.mul_str_none (by decide) (by decide) ⟨.str Str.empty, H, I.tok _, ⟨_, rfl⟩, q⟩
  · refine PySem.P.mul_str (by decide) (fun _ h2 => absurd h2 (by simp)) (fun _ h2 => absurd h2 (by simp)) ?_
    rw [if_neg (by decide), if_pos (by rfl)]
    exact ⟨.str z, H, I, ⟨_, rfl⟩, q⟩
/-- all that is no list stays -/
def NL (H H2 : Hp) : Prop := ∀ a o, (∀ ys, o ≠ HO.lst ys) → H a = some o → H2 a = some o
theorem NL.of {H H2 : Hp} (e : Evl.Ex H H2) : NL H H2 := fun a o _ h => e a o h
theorem NL.trans {H H2 H3 : Hp} (e : NL H H2) (e2 : NL H2 H3) : NL H H3 := fun a o n h => e2 a o n (e a o n h)
theorem NL.upd {H : Hp} {f : Addr} {xs ys : List V} (h : H f = some (.lst xs)) : NL H (upd H f (.lst ys)) := fun a o n ha => by
  rw [upd_ne (ne_of ha h (n xs))]
  exact ha
theorem NL.box {H H2 : Hp} {b : Addr} (e : ExB b H H2) (h : BoxAt H b) : NL H H2 := fun a o n ha => by
  obtain ⟨x, y, z, _, q⟩ := h
  exact e a o (ne_of ha q (n _)) ha
section
variable {K : PySem.W.Frag} {σ : St} {H : Hp} {Q : VK} {g : TG} {tt : TT} {te : TE} {vs : List Nat}
theorem lcTN {a : Addr} {xs : List V} (P : Nat → V → Hp → Prop) (hst : ∀ i y G G2, NL G G2 → P i y G → P i y G2) (hs : SqT K H a xs) (hn : xs.length ≤ 1000)
    (ht : ∀ (i : Nat) (x : V), xs[i]? = some x → ∀ H2, Evl.Ex H H2 → ∀ (R : V → Hp → Prop) (N : Hp → Prop), (∀ y H3, Evl.Ex H2 H3 → P i y H3 → R y H3) →
      g x (wipe σ vs) H2 fun σ2 H3 => wipe σ2 vs = wipe σ vs ∧ tt σ2 H3 fun c H4 => if c = true then te σ2 H4 fun y H5 => R y H5 else N H4)
    (k : ∀ ys p H2, ys.length = xs.length → (∀ i y, ys[i]? = some y → P i y H2) → H p = none → Evl.Ex H H2 → H2 p = some (.lst ys) → Q (.ref p) H2) : LcI (Itt K a) g tt te vs σ H Q := by
  refine fun D hD => ?_
  have ex : ∀ {G : Hp} {o : HO}, Evl.Ex H G → Evl.Ex H (upd G D o) := fun e b u hb => by rw [upd_ne (ne_of_none hb hD)]; exact e b u hb
  refine lc_tup (xs := xs) (fun i H' => i ≤ xs.length ∧ Evl.Ex H H' ∧ ∃ ys, ys.length = i ∧ (∀ j y, ys[j]? = some y → P j y H') ∧ H' D = some (.lst ys))
    ⟨Nat.zero_le _, ex (Evl.Ex.refl _), [], rfl, (fun j y h => by simp at h), upd_same⟩ (fun i H' _ p => Evl.ex_t p.2.1 hs) (fun i x H' hi p => ?_) (fun H' p => ?_)
  · obtain ⟨_, e1, ys, hl, hy, hD'⟩ := p
    have hil := (List.getElem?_eq_some_iff.mp hi).1
    refine ht i x hi H' e1 (fun y H4 => ∃ acc, H4 D = some (.lst acc) ∧ acc.length < sizeLine ∧ (i + 1 ≤ xs.length ∧ Evl.Ex H (upd H4 D (.lst (acc ++ [y]))) ∧ ∃ zs, zs.length = i + 1 ∧ (∀ j y2, zs[j]? = some y2 → P j y2 (upd H4 D (.lst (acc ++ [y])))) ∧ upd H4 D (.lst (acc ++ [y])) D = some (.lst zs))) _ (fun y H3 e3 py => ?_)
    have hD3 := e3 _ _ hD'
    have eD : NL H3 (upd H3 D (.lst (ys ++ [y]))) := NL.upd hD3
    refine ⟨ys, hD3, Evl.sz_lt (by omega), hil, ex (e1.trans e3), ys ++ [y], by rw [List.length_append, hl]; rfl, fun j y2 hj => ?_, upd_same⟩
    rcases Nat.lt_or_ge j ys.length with h | h
    · rw [List.getElem?_append_left h] at hj
      exact hst _ _ _ _ eD (hst _ _ _ _ (NL.of e3) (hy j y2 hj))
    · rw [List.getElem?_append_right h] at hj
      have hj0 : j - ys.length = 0 := by
        have := (List.getElem?_eq_some_iff.mp hj).1
        rw [List.length_singleton] at this
        omega
      rw [hj0] at hj
      have hyy : y = y2 := by simpa using hj
      subst hyy
      have : j = i := by omega
      subst this
      exact hst _ _ _ _ eD py
  · obtain ⟨_, e1, ys, hl, hy, hD'⟩ := p
    exact k ys D H' hl hy hD e1 hD'
/-- the same over range(n), with draws -/
theorem lcRN {n : Nat} {b : Addr} (P : Nat → V → Hp → Prop) (hst : ∀ i y G G2, NL G G2 → P i y G → P i y G2) (hn : n ≤ 1000) (hB : BoxAt H b)
    (ht : ∀ (i : Nat), i < n → ∀ H2, BoxAt H2 b → ExB b H H2 → ∀ (R : V → Hp → Prop) (N : Hp → Prop), (∀ y H3, ExB b H2 H3 → BoxAt H3 b → P i y H3 → R y H3) →
      g (.int (i : Int)) (wipe σ vs) H2 fun σ2 H3 => wipe σ2 vs = wipe σ vs ∧ tt σ2 H3 fun c H4 => if c = true then te σ2 H4 fun y H5 => R y H5 else N H4)
    (k : ∀ ys p H2, ys.length = n → (∀ i y, ys[i]? = some y → P i y H2) → H p = none → ExB b H H2 → BoxAt H2 b → H2 p = some (.lst ys) → Q (.ref p) H2) : LcI (Itr 0 n) g tt te vs σ H Q := by
  refine fun D hD => ?_
  obtain ⟨ob, hob⟩ := hB.some
  have nDb : D ≠ b := (ne_of_none hob hD).symm
  have bx : ∀ {G : Hp} {o : HO}, BoxAt G b → BoxAt (upd G D o) b := fun ⟨x, y, z, p, q⟩ => ⟨x, y, z, p, by rw [upd_ne nDb.symm]; exact q⟩
  have ex : ∀ {G : Hp} {o : HO}, ExB b H G → ExB b H (upd G D o) := fun e a u na ha => by rw [upd_ne (ne_of_none ha hD)]; exact e a u na ha
  refine lc_range (lo := 0) (n := n) (fun i H' => i ≤ n ∧ ExB b H H' ∧ BoxAt H' b ∧ ∃ ys, ys.length = i ∧ (∀ j y, ys[j]? = some y → P j y H') ∧ H' D = some (.lst ys))
    ⟨Nat.zero_le _, ex (ExB.refl _ _), bx hB, [], rfl, (fun j y h => by simp at h), upd_same⟩ (fun i H' hi p => ?_) (fun H' p => ?_)
  · obtain ⟨_, e1, b1, ys, hl, hy, hD'⟩ := p
    have e0 : (0 : Int) + (i : Int) = (i : Int) := Int.zero_add _
    rw [e0]
    refine ht i hi H' b1 e1 (fun y H4 => ∃ acc, H4 D = some (.lst acc) ∧ acc.length < sizeLine ∧ (i + 1 ≤ n ∧ ExB b H (upd H4 D (.lst (acc ++ [y]))) ∧ BoxAt (upd H4 D (.lst (acc ++ [y]))) b ∧ ∃ zs, zs.length = i + 1 ∧ (∀ j y2, zs[j]? = some y2 → P j y2 (upd H4 D (.lst (acc ++ [y])))) ∧ upd H4 D (.lst (acc ++ [y])) D = some (.lst zs))) _ (fun y H3 e3 b3 py => ?_)
    have hD3 := e3 _ _ nDb hD'
    have eD : NL H3 (upd H3 D (.lst (ys ++ [y]))) := NL.upd hD3
    refine ⟨ys, hD3, Evl.sz_lt (by omega), hi, ex (e1.trans e3), bx b3, ys ++ [y], by rw [List.length_append, hl]; rfl, fun j y2 hj => ?_, upd_same⟩
    rcases Nat.lt_or_ge j ys.length with h | h
    · rw [List.getElem?_append_left h] at hj
      exact hst _ _ _ _ eD (hst _ _ _ _ (NL.box e3 b1) (hy j y2 hj))
    · rw [List.getElem?_append_right h] at hj
      have hj0 : j - ys.length = 0 := by
        have := (List.getElem?_eq_some_iff.mp hj).1
        rw [List.length_singleton] at this
        omega
      rw [hj0] at hj
      have hyy : y = y2 := by simpa using hj
      subst hyy
      have : j = i := by omega
      subst this
      exact hst _ _ _ _ eD py
  · obtain ⟨_, e1, b1, ys, hl, hy, hD'⟩ := p
    exact k ys D H' hl hy hD e1 b1 hD'
theorem c_noneIn {p : Addr} {xs : List V} (h : SqL K H p xs) (hn : ∀ z ∈ xs, NoneOr K H z) (hr : ∀ z ∈ xs, z ≠ .non) (q : Q (.bl false) H) : rNoneIn K false .non (.ref p) H Q := by
  refine ⟨p, xs, rfl, rfl, h, hn, ?_⟩
  have e : xs.any isNon = false := by
    rw [List.any_eq_false]
    intro z hz he
    cases z with
    | non => exact hr _ hz rfl
    | _ => cases he
  show Q (.bl (xs.any isNon)) H
  rw [e]
  exact q
end
end L2

/-! ### C.m(self, ..), m a def of the class -/
namespace L2
open PySem PySem.Spec PyProof.Rows
structure CmC (K : PySem.W.Frag) (B f : Addr) (m : Str) : Prop where
  rd : PySem.W.readsIn K B (.type "type") = true
  ga : PySem.W.specialIn K (.ref B) "__getattribute__" = some (some (.builtin "type.__getattribute__"))
  at_ : PySem.W.findCls K (.ref B) (.type "type") m = some (.val (.ref f))
def cmB (K : PySem.W.Frag) (B f : Addr) (m : Str) : Bool := PySem.W.readsIn K B (.type "type") && (decide (PySem.W.specialIn K (.ref B) "__getattribute__" = some (some (.builtin "type.__getattribute__"))) && (match PySem.W.findCls K (.ref B) (.type "type") m with | some (.val (.ref g)) => decide (g = f) | _ => false))
theorem cmB_ok {K : PySem.W.Frag} {B f : Addr} {m : Str} (h : cmB K B f m = true) : CmC K B f m := by
  unfold cmB at h
  simp only [Bool.and_eq_true, decide_eq_true_eq] at h
  obtain ⟨h1, h2, h3⟩ := h
  split at h3
  · rename_i g e
    rw [decide_eq_true_eq] at h3
    subst h3
    exact ⟨h1, h2, e⟩
  · cases h3
section
variable {X : Cx} {CX : CXT} {k : Nat} {B f : Addr} {fd : FuncData} {ps : List Str} {sp : Sp} {E : XK} {x m : Str} {a1 : Expr} {ar : List Expr} {ta : TA} {q1 q2 qc : Pos}
theorem pe_cm {pl : Sem Bool} (hg : Gl X x) (hm : X.mg x = some (.ref B)) (T : CmC X.K B f m) (F : FnOk X.prog X.w X.K X.mg X.base CX k f fd ps sp) (hr : Room k X.A) (hk : PySem.W.keepIn X.K (.ref f) = true) (hb : Binds X.K fd ps []) (hx : Passes CX X E) (ha : PA X (a1 :: ar) ta)
    (hcal : eval (.Call (.Attribute (.Name x q1) m q2) (a1 :: ar) [] qc) X.env = (eval (.Name x q1) X.env >>= fun ov => standAt q2.atName >>= fun _ => holding [ov] (getMethod ov m pl) >>= fun r => callWith qc r.1 r.2 (backTo qc (starEach (a1 :: ar) X.env)) (backToKw qc (keywordEach [] X.env))) := by rfl)
    (hst : starEach (a1 :: ar) X.env = (false, eval a1 X.env) :: starEach ar X.env := by rfl) (hps : (backTo qc (starEach ar X.env)).any (·.1) = false := by rfl) (hdb : (x == ("__debug__" : Str)) = false := by decide) :
    PE X (.Call (.Attribute (.Name x q1) m q2) (a1 :: ar) [] qc) (tCall sp [] E ta) := by
  refine ⟨fun pins s σ H Q I h => ?_⟩
  refine PySem.W.methodCall_KW (ld_glob I hg hm ?_ hdb) hcal
  refine PySem.W.method_cls I.kIn T.ga (PySem.W.cls_value I.kIn T.rd T.at_ (by rfl) ?_)
  refine PySem.W.callWith_K (first := []) (h₀ := X.base) I.ok.mod.kin hk (thn (ha.run qc pins _ σ H _ (I.tok _) h) fun us s2 h2 => ?_) hst hps
  obtain ⟨vs, H2, I2, r, q2⟩ := h2
  exact ⟨I2.kIn, run_fn (us := us) (vs := vs) (dvs := []) F hr hb .nil hx I2 r (by rw [List.append_nil]; rw [List.append_nil] at q2; exact q2)⟩
end
end L2
namespace L2
open PySem PySem.Spec PyProof.Rows
theorem c_sdput {σ : St} {H : Hp} {D : Ends} {td ty tv : TE} (h : tv σ H fun v H1 => td σ H1 fun x H2 => ty σ H2 fun y H3 => ∃ a H4, x = .ref a ∧ DPut H3 a y v H4 ∧ D.nx σ H4) : sDPut td ty tv D σ H := h
theorem c_dget {σ : St} {H : Hp} {Q : VK} {td ty : TE} (h : td σ H fun x H1 => ty σ H1 fun y H2 => ∃ a v, x = .ref a ∧ DGet H2 a y (some v) ∧ Q v H2) : tDGet td ty σ H Q := h
end L2
namespace L2
open PySem PySem.Spec PyProof.Rows
section
variable {σ : St} {H : Hp} {Q : VK} {ta : TA} {te : TE} {sp : Sp} {E : St → XK} {C a : Addr} {cls : Value} {d : Option Addr} {f : Str} {W : XK}
theorem c_callS (h : ta σ H fun vs H1 => sp vs H1 Q (E σ)) : tCallS sp E ta σ H Q := h
theorem c_xf (h : te σ H fun x H1 => x = .ref a ∧ cls = .ref C ∧ ∃ (dd : Addr) (fs : List (Str × V)) (v : V), d = some dd ∧ H1 dd = some (.xd fs) ∧ fs.lookup f = some v ∧ Q v H1) : tXf a cls d C f te σ H Q := h
/-- what the making of an error that is raised asks -/
def RaP (C : Addr) (sp : Sp) (vs : List V) (H1 : Hp) (W : XK) : Prop := vs.length ≤ 1000 ∧ ∀ a, H1 a = none → sp (.ref a :: (vs ++ [])) (upd H1 a (exo a C none))
  (fun v H2 => v = .non ∧ ∃ (d : Addr) (fs : List (Str × V)), H2 a = some (exo a C (some d)) ∧ H2 d = some (exd d fs) ∧ H1 d = none ∧ W (.ref C) (some d) (upd (del H2 a) d (.xd fs))) (fun _ _ _ => False)
theorem c_mko (h : ta σ H fun vs H1 => RaP C sp vs H1 W) : tMkO C sp [] ta σ H W := h
theorem raise1 {u : V} (k : ∀ d H2, H d = none → Evl.Ex H H2 → H2 d = some (.xd [(f, u)]) → W (.ref C) (some d) H2) : RaP C (sp_err1 C f) [u] H W := by
  refine ⟨by simp, fun a ha => ⟨a, u, rfl, upd_same, fun d H2 hd nda hk h2a h2d => ⟨rfl, d, _, h2a, h2d, ?_, k d _ ?_ (fun b o hb => ?_) upd_same⟩⟩⟩
  · rw [upd_ne nda] at hd; exact hd
  · rw [upd_ne nda] at hd; exact hd
  · have nba : b ≠ a := ne_of_none hb ha
    have nbd : b ≠ d := by
      rw [upd_ne nda] at hd
      exact ne_of_none hb hd
    rw [upd_ne nbd, del_ne nba, hk b nba nbd, upd_ne nba]
    exact hb
end
end L2

/-! ### dicts: in, get -/
namespace L2
open PySem PySem.Spec PyProof.Rows
section
variable {X : Cx}
def rInDk : R2 := fun y x H Q => ∃ a o, x = .ref a ∧ DGet H a y o ∧ Q (.bl o.isSome) H
def rNotInDk : R2 := fun y x H Q => ∃ a o, x = .ref a ∧ DGet H a y o ∧ Q (.bl (!o.isSome)) H
theorem op_inDk (hu : X.A.units + 1 < cLine) : OpR X (compareOp .In) rInDk := by
  intro pins s σ H y x v u Q I ry rx h
  obtain ⟨a, o, rfl, g, q⟩ := h
  cases (show u = Value.ref a from rx)
  exact d_in hu I g ry fun s3 I3 => ⟨.bl o.isSome, H, I3, rfl, q⟩
theorem op_notInDk (hu : X.A.units + 1 < cLine) : OpR X (compareOp .NotIn) rNotInDk := by
  intro pins s σ H y x v u Q I ry rx h
  obtain ⟨a, o, rfl, g, q⟩ := h
  cases (show u = Value.ref a from rx)
  exact d_notIn hu I g ry fun s3 I3 => ⟨.bl (!o.isSome), H, I3, rfl, q⟩
end
end L2
/-! ### o.m(..) in a try, where m may raise -/
namespace L2
open PySem PySem.Spec PyProof.Rows
section
variable {X : Cx} {CX : CXT} {k : Nat} {sp : Addr → Sp} {E : St → XK} {m : Str} {o a1 : Expr} {ar : List Expr} {te : TE} {ta : TA} {qa qc : Pos} {M : Addr → Prop}
def tMPS (M : Addr → Prop) (m : Str) (sp : Addr → Sp) (E : St → XK) (te : TE) (ta : TA) : TE := fun σ H Q => te σ H fun x H1 => ∃ a C dx fs, x = .ref a ∧ H1 a = some (.ins C dx fs) ∧ M C ∧ fs.lookup m = none ∧ ta σ H1 fun vs H2 => sp C (x :: vs) H2 Q (E σ)
theorem pe_methPS {pl : Sem Bool} (he : PE X o te) (hM : ∀ C, M C → MOk X.prog X.w X.K X.mg X.base CX k C m (sp C)) (hr : Room k X.A) (hx : ∀ σ, PassesAt CX X σ (E σ)) (ha : PA X (a1 :: ar) ta)
    (hst : starEach (a1 :: ar) X.env = (false, eval a1 X.env) :: starEach ar X.env := by rfl) (hps : (backTo qc (starEach ar X.env)).any (·.1) = false := by rfl)
    (hcal : eval (.Call (.Attribute o m qa) (a1 :: ar) [] qc) X.env = (eval o X.env >>= fun ov => standAt qa.atName >>= fun _ => holding [ov] (getMethod ov m pl) >>= fun r => callWith qc r.1 r.2 (backTo qc (starEach (a1 :: ar) X.env)) (backToKw qc (keywordEach [] X.env))) := by rfl) :
    PE X (.Call (.Attribute o m qa) (a1 :: ar) [] qc) (tMPS M m sp E te ta) := by
  refine ⟨fun pins s σ H Q I h => ?_⟩
  refine PySem.W.methodCall_KW (pl := pl) (thn (he.run pins s σ H _ I h) fun u s1 hh => ?_) hcal
  obtain ⟨x, H1, I1, rx, a, C, dx, fs, rfl, ea, hC, l, q⟩ := hh
  obtain rfl : u = Value.ref a := rx
  obtain ⟨cl, f, fd, ps, hm, F, hb⟩ := hM C hC
  refine getmeth_ok I1 ea cl hm l ?_
  refine PySem.W.callWith_K (first := [.ref a]) (h₀ := X.base) I.ok.mod.kin hm.kp (thn (ha.run qc pins s1 σ H1 _ I1 q) fun us s2 h2 => ?_) hst hps
  obtain ⟨vs, H2, I2, r, q2⟩ := h2
  exact ⟨I2.kIn, run_fnS (us := .ref a :: us) (vs := .ref a :: vs) F hr hb (hx σ) I2 (.cons rfl r) q2⟩
theorem c_mps {σ : St} {H : Hp} {Q : VK} (h : te σ H fun x H1 => ∃ a C dx fs, x = .ref a ∧ H1 a = some (.ins C dx fs) ∧ M C ∧ fs.lookup m = none ∧ ta σ H1 fun vs H2 => sp C (x :: vs) H2 Q (E σ)) : tMPS M m sp E te ta σ H Q := h
end
end L2

/-! ### the end over a head by facts -/
namespace HandSHeadRun
/-- a list of numbers, reckoned first -/
def frL {α : Type} : List Nat → (List Nat → α) → α
  | [], k => k []
  | a :: as, k => frNat a fun b => frL as fun bs => k (b :: bs)
end HandSHeadRun
namespace L2
open PySem PySem.Spec PyProof.Rows
/-- as walk_ofE, the promise over A with nothing shown -/
theorem walk_ofEG {l : PySem.W.OpenLaw} {n k : Nat} {q : Program} {loose : List Str} {XP : (Str → Option Value) → Heap → Prop} {YP : World → Heap → Prop} {d : DefRec} {CX : CXT} {x : Str} (hn : l.most = some n) (hn2 : n ≤ sizeLine) (hdf : d.params.defaults = []) (hr : Room k callerA)
    (F : ∀ (w : World) (mg : Str → Option Value) (fa : Addr) (h : Heap), YP w h → h.Ns mainGlobals mg → mg d.name = some (.ref fa) → ∃ (K : PySem.W.Frag) (fd : FuncData) (sp : Sp), K.In h ∧ (∀ (s : Shared) (u : Value), BindsTo s fd ⟨[u], []⟩ [(x, u)]) ∧
        (∀ (H : Hp) (a : Addr) (ns : List Int), ns.length ≤ n → Only H → SqL K H a (ns.map V.int) → sp [.ref a] H (fun v _ => v = .bl true) fun _ _ _ => False) ∧ ∀ base : Heap, K.In base → base.Ns mainGlobals mg → FnG l.prog w K mg base CX k fa fd [x] sp)
    (hCX : ∀ (H : Hp) (s : Shared) (e : Value) (s' : Shared), CX [] H s (fun _ _ _ => False) e s' → False) : PySem.W.WalkO q loose XP YP l.row.toRowW d [] (fun f vs => PySem.call f vs) := by
  refine Att.attach_call hn hdf fun w s0 z1 mg mb fa o pm cd doc a vs ns G Y ho hd hcd hmg hobj hints hlen hg => ?_
  obtain ⟨K, fd, sp, KX, hb, hsp, hF⟩ := F w mg fa _ Y G.T.g hmg
  exact law_callG KX G.T.g G.T.b G.T.builtins G.T.nolimit hg hobj hints (Nat.le_trans hlen hn2) hr hF hb (fun H hO hS => hsp H a ns hlen hO hS) fun H e s' => hCX H z1 e s'
theorem fun_ofD {K : PySem.W.Frag} {x qual : Str} {st : Stmt} {f : Addr} {fd : FuncData} (F : FunD K x qual (defArgs st) (defBody st) (defScope st) [] [] f fd) : Fun K x qual st f fd := by
  obtain ⟨oc, od, dV, kV, doc, pm, an, cdv, ct, osl, e, lk, hcd, hD, _⟩ := F.ex
  rcases hD with ⟨_, rfl⟩ | ⟨z, _⟩
  · exact ⟨⟨oc, od, kV, doc, pm, an, cdv, ct, osl, e, lk, hcd⟩, F.kp⟩
  · exact absurd rfl z
theorem allAt {l : List Bool} (h : l.all id = true) (i : Nat) {b : Bool} (e : l[i]? = some b) : b = true := List.all_eq_true.mp h b (List.mem_of_getElem? e)
def strB (v : Value) (s : Str) : Bool := match v with
  | .str t _ => decide (t = s)
  | _ => false
def strsB : List Value → List Str → Bool
  | [], [] => true
  | v :: vs, s :: ss => strB v s && strsB vs ss
  | _, _ => false
theorem strsB_ok : ∀ {vs : List Value} {ss : List Str}, strsB vs ss = true → Vals (ss.map V.str) vs
  | [], [], _ => .nil
  | v :: vs, s :: ss, h => by
    rw [strsB, Bool.and_eq_true] at h
    refine .cons ?_ (strsB_ok h.2)
    cases v with
    | str t tk => exact ⟨tk, by rw [of_decide_eq_true (show decide (t = s) = true from h.1)]⟩
    | _ => exact absurd h.1 Bool.false_ne_true
  | [], _ :: _, h => absurd h Bool.false_ne_true
  | _ :: _, [], h => absurd h Bool.false_ne_true
/-- a tuple of texts of the written part -/
def tupB (K : PySem.W.Frag) (a : Addr) (ss : List Str) : Bool := match K.lookup a with
  | some ⟨.type c, _, .seq its _, _⟩ => decide (c = "tuple") && (decide (its.size ≤ 1000) && strsB its.toList ss)
  | _ => false
theorem tupB_ok {K : PySem.W.Frag} {a : Addr} {ss : List Str} (h : tupB K a ss = true) (H : Hp) : SqT K H a (ss.map V.str) := by
  unfold tupB at h
  split at h
  · rename_i c d its n sl e
    simp only [Bool.and_eq_true, decide_eq_true_eq] at h
    refine .inr ⟨_, its, n, e, ?_, rfl, Nat.le_trans h.2.1 (by decide), strsB_ok h.2.2⟩
    rw [h.1]
  · cases h
end L2
namespace L2
open PySem PySem.Spec PyProof.Rows
/-- where the named things stand: the module's names, classes and their tables, defs and their code -/
def nsOf (g : Addr → Option Obj) (C : Addr) : Addr := match g C with
  | some ⟨_, _, .cls cd, _⟩ => cd.ns
  | _ => 0
def cdOf (g : Addr → Option Obj) (f : Addr) : Addr := match g f with
  | some ⟨_, _, .func fd, _⟩ => (match fd.code with
    | .ref c => c
    | _ => 0)
  | _ => 0
def adrK (g : Addr → Option Obj) (cs ts : List Str) (fs : List (Str × Option Str)) : List Addr :=
  HandSHeadRun.frL (cs.map (He.ga (He.frG g [mainGlobals]))) fun ca => HandSHeadRun.frL (ca.map (nsOf g)) fun na =>
    HandSHeadRun.frL (fs.map (He.fAd (He.frG g (mainGlobals :: (ca ++ na))))) fun fa => HandSHeadRun.frL (fa.map (cdOf g)) fun ka =>
      HandSHeadRun.frL (ts.map (He.ga (He.frG g [mainGlobals]))) fun ta => mainGlobals :: cStatics :: (ca ++ (na ++ (fa ++ (ka ++ ta))))
def hkObs (cs ts : List Str) (fa : List He.Fa) (fn : List He.DefD) (ex : PySem.W.Frag → Bool) (g : Addr → Option Obj) : He.AlD × Bool := (He.obsD fa fn (He.frG g (adrK g cs ts (fn.map (·.at_)))), ex (He.frG g (adrK g cs ts (fn.map (·.at_)))))
def hookK (cs ts : List Str) (fa : List He.Fa) (fn : List He.DefD) (ex : PySem.W.Frag → Bool) : PySem.W.Hook where
  α := He.AlD × Bool
  obs := fun s => hkObs cs ts fa fn ex s.heap.get?
  val := fun _ => (He.valD fn, true)
  says := fun _ h => ∃ K : PySem.W.Frag, K.In h ∧ He.SaysD fa fn K ∧ ex K = true
  of := fun _ s e => ⟨_, He.frG_in, congrArg (fun z : He.AlD × Bool => z.1) e, congrArg (fun z : He.AlD × Bool => z.2) e⟩
  keeps := fun _ _ _ ⟨K, hK, c⟩ k => ⟨K, PySem.W.Frag.In.keeps hK k, c⟩
theorem hkObs_eq {cs ts : List Str} {fa : List He.Fa} {fn : List He.DefD} {ex : PySem.W.Frag → Bool} {g : Addr → Option Obj} {s : Shared} (h : ∀ a, g a = s.heap.get? a) : hkObs cs ts fa fn ex g = (hookK cs ts fa fn ex).obs s := by
  have e : g = s.heap.get? := funext h
  rw [e] <;> rfl
end L2

/-! ### try: clauses with a name or without, and else -/
namespace L2
open PySem PySem.Spec PyProof.Rows
abbrev Sui := Addr → Value → Option Addr → TS
/-- what the clauses wish: a class, the slot of the name (if there is one), the suite -/
def wAll (K : PySem.W.Frag) (Wo : WX) (D : Ends) : List (Value × Option Nat × Sui) → WX
  | [] => Wo
  | (c, none, ts) :: r => fun k d σ H => ∃ b, PySem.W.exmOne K k c = some b ∧ (b = true → ∀ a, H a = none → ts a k d D σ H) ∧ (b = false → wAll K Wo D r k d σ H)
  | (c, some i, ts) :: r => fun k d σ H => ∃ b, PySem.W.exmOne K k c = some b ∧ (b = true → ∀ a, H a = none → ts a k d ⟨fun σ' H' => D.nx (σ'.set i none) H', D.rt, fun σ' H' => D.bk (σ'.set i none) H', fun σ' H' => D.ct (σ'.set i none) H'⟩ (σ.set i (some (.ref a))) H) ∧ (b = false → wAll K Wo D r k d σ H)
abbrev SuiOk (X : Cx) (ss : List Stmt) (ts : Sui) : Prop := ∀ (a : Addr) (oe : Obj) (k : Value) (d : Option Addr) (pn : List (Addr × Obj)), Zc k d oe → (∃ vs, oe.data = .fields vs) → PSs (X.suite a ((a, oe) :: pn)) ss (ts a k d)
inductive Hds (X : Cx) : List ExceptHandler → List (Value × Option Nat × Sui) → Prop
  | nil : Hds X [] []
  | anon {x : Str} {c : Value} {ts : Sui} {s0 : Stmt} {ss : List Stmt} {p1 p2 : Pos} {hs : List ExceptHandler} {l : List (Value × Option Nat × Sui)} (hc : Names X x c) (su : SuiOk X (s0 :: ss) ts) (r : Hds X hs l) : Hds X (.ExceptHandler (some (.Name x p1)) none (s0 :: ss) p2 :: hs) ((c, none, ts) :: l)
  | named {x n : Str} {i : Nat} {c : Value} {ts : Sui} {s0 : Stmt} {ss : List Stmt} {p1 p2 : Pos} {hs : List ExceptHandler} {l : List (Value × Option Nat × Sui)} (hi : X.N[i]? = some n) (hk : X.env.kindOf n = some .local) (hc : Names X x c) (su : SuiOk X (s0 :: ss) ts) (r : Hds X hs l) : Hds X (.ExceptHandler (some (.Name x p1)) (some n) (s0 :: ss) p2 :: hs) ((c, some i, ts) :: l)
section
variable {X : Cx}
theorem ps_try_all {bd el : List Stmt} {g0 : ExceptHandler} {gs : List ExceptHandler} {l : List (Value × Option Nat × Sui)} {p : Pos} {tb : WX → TS} {te : TS} {Wo : WX} (hN : X.N.Nodup) (hs : X.stack = X.env :: X.outer) (hf : X.env.frame = some X.env.locals) (tk : Takes X Wo)
    (hb : ∀ (W : WX) (pn : List (Addr × Obj)) (xe : Value → Shared → Prop), Takes (X.tr pn xe) W → PassesOwn (model X.prog X.w) X.A X.env xe → PSs (X.tr pn xe) bd (tb W)) (hh : Hds X (g0 :: gs) l) (he : PSs X el te) :
    PS X (.Try bd (g0 :: gs) el [] p) (fun D σ H => tb (wAll X.K Wo D l) { D with nx := te D } σ H) := by
  refine ⟨fun pins s σ H D I h => ?_⟩
  have ok := I.ok
  have fr : X.A.frames = some (X.env :: X.outer) := by rw [ok.frames, hs]
  let M := model X.prog X.w
  let catches : Value → Shared → Prop := fun e s1 => wpAny M X.A (noteFrame e X.env) (fun _ s2 => wpAny M X.A (setFlight e none) (fun _ s3 => wpAny M X.A (handleBy e X.env (g0 :: gs)) (SP X pins D) X.xe s3) X.xe s2) X.xe s1
  refine wpAny_Try_except ?_
  have run := (hb (wAll X.K Wo D l) (X.pn ++ pins) catches (fun u s' got => ?_) PassesOwn.looking).run [] s σ H { D with nx := te D } (I.toTry _) h
  refine wpAny_mono run (fun f s1 out => ?_) (fun e s1 z => z)
  · cases f with
    | next => obtain ⟨σ1, H1, J1, q⟩ := out; exact he.run pins s1 σ1 H1 D (J1.ofTry ok) q
    | brk => obtain ⟨σ1, H1, J1, q⟩ := out; exact ⟨σ1, H1, J1.ofTry ok, q⟩
    | cont => obtain ⟨σ1, H1, J1, q⟩ := out; exact ⟨σ1, H1, J1.ofTry ok, q⟩
    | ret u => obtain ⟨v, σ1, H1, J1, r, q⟩ := out; exact ⟨v, σ1, H1, J1.ofTry ok, r, q⟩
  · obtain ⟨a, B, sI, pins1, σ1, H1, k, d, rfl, J1, nb, up, sky, na, os, ag, wish⟩ := got
    have J : Inv X pins σ1 H1 sI := J1.ofTry ok
    have sk : Sky B (X.env :: X.outer) a (Zc k d) X.env.locals s'.heap := hs ▸ sky
    show wpAny M X.A (noteFrame (.ref a) X.env) _ _ _
    refine Sky.land Zc.steady fr hf sk fun hA flA upA => ?_
    have JA : Inv X pins σ1 H1 { s' with heap := hA } := J.landed nb flA.1 (up.trans upA) os ag
    obtain ⟨oA, vA, eA, zA, dA⟩ := flA.there
    have off : a ∉ frs (X.env :: X.outer) := fun hm => by
      obtain ⟨_, o1, e1, hn⟩ := flA.2.2.1.mem hm
      rw [eA] at e1
      cases e1
      exact hn _ dA
    have off1 : a ≠ X.env.locals := fun z => off (List.mem_filterMap.mpr ⟨X.env, List.mem_cons_self, by rw [hf, z]⟩)
    have off2 : a ∉ X.fs := fun hm => by
      obtain ⟨e, h1, h2⟩ := List.mem_filterMap.mp hm
      exact off (List.mem_filterMap.mpr ⟨e, List.mem_cons_of_mem _ h1, h2⟩)
    have SA := JA.suite eA dA na off1 off2
    have ask : ∀ {x : Str} {c : Value} {np : Pos} {Q E : Value → Shared → Prop}, Names X x c → Q c { s' with heap := hA } → wpAny M (X.A.mark (some (.ref a))) (eval (.Name x np) X.env) Q E { s' with heap := hA } := fun {x c np Q E} hc q => by
      obtain ⟨hg, hd, hm | ⟨hm, hv, hn⟩⟩ := hc
      · exact ld_glob (X := X.suite a ((a, oA) :: (X.pn ++ pins))) SA hg hm q hd
      · exact ld_blt (X := X.suite a ((a, oA) :: (X.pn ++ pins))) SA hg hm hv q hn hd
    have type_ : PySem.W.Looks M hA (typeOf (.ref a)) k := fun A Q E s q1 q2 => wpAny_typeOf_ref (q1 _ _ eA) (by rw [zA.1]; exact q2)
    suffices go : ∀ {hs1 : List ExceptHandler} {l1 : List (Value × Option Nat × Sui)}, Hds X hs1 l1 → wAll X.K Wo D l1 k d σ1 H1 → wpAny M X.A (handleBy (.ref a) X.env hs1) (SP X pins D) X.xe { s' with heap := hA } from go hh wish
    intro hs1 l1 hk
    induction hk with
    | nil =>
      intro wsh
      refine wpAny_handleBy_nil ?_
      obtain ⟨_, _, _, oe, vs, T, oT, tt, e0, z0, d0, t0, r0⟩ := id flA
      unfold PySem.passOn
      refine wpAny_bind (wpAny_field e0 d0 t0 ?_)
      rw [if_neg (show ¬ ((Value.ref T == Value.none) = true) by simp)]
      have last : wpAny M X.A (setFlight (.ref a) X.env.frame) (fun _ s4 => wpAny M X.A (throw (.ref a) : Sem Flow) (SP X pins D) X.xe s4) X.xe { s' with heap := hA } := by
        rw [hf]
        refine HandSPX.setFlight_upZ flA fun hB kB upB => wpAny_throw (tk _ _ ?_)
        exact ⟨a, B, sI, pins, σ1, H1, k, d, rfl, J, nb, (up.trans upA).trans upB, .inr (.inr (hs ▸ kB)), na, os, ag, wsh⟩
      first
        | exact wpAny_bind (wpAny_pure (wpAny_bind last))
        | exact wpAny_bind last
    | @anon x c ts s0 ss p1 p2 hs2 l2 hc su r ih =>
      intro wsh
      obtain ⟨b, hb1, yes, no⟩ := wsh
      have LM := PySem.W.exm_one (M := M) JA.kIn type_ hb1
      refine wpAny_handleBy_cons (codeAny_handlers_test (ask hc (LM.here ?_))) (by intro q; cases q)
      cases b with
      | false => exact ih (no rfl)
      | true =>
        refine codeAny_handlers_suite (HandSPX.lands_againZ flA fun hB flB upB => ?_)
        have JB : Inv X pins σ1 H1 { s' with heap := hB } := J.landed nb flB.1 ((up.trans upA).trans upB) os ag
        obtain ⟨oB, vB, eB, zB, dB⟩ := flB.there
        have run2 := (su a oB k d (X.pn ++ pins) zB ⟨_, dB⟩).run [] _ _ H1 _ (JB.suite eB dB na off1 off2) (yes rfl a na)
        refine wpAny_mono run2 (fun f s6 out => ?_) (fun _ _ z => False.elim z)
        cases f with
        | next => obtain ⟨σ6, H6, S6, q6⟩ := out; exact ⟨_, _, S6.unsuite ok, q6⟩
        | brk => obtain ⟨σ6, H6, S6, q6⟩ := out; exact ⟨_, _, S6.unsuite ok, q6⟩
        | cont => obtain ⟨σ6, H6, S6, q6⟩ := out; exact ⟨_, _, S6.unsuite ok, q6⟩
        | ret u => obtain ⟨v6, σ6, H6, S6, r6, q6⟩ := out; exact ⟨_, _, _, S6.unsuite ok, r6, q6⟩
    | @named x n i c ts s0 ss p1 p2 hs2 l2 hi hkn hc su r ih =>
      intro wsh
      obtain ⟨b, hb1, yes, no⟩ := wsh
      have LM := PySem.W.exm_one (M := M) JA.kIn type_ hb1
      refine wpAny_handleBy_cons (codeAny_handlers_test (ask hc (LM.here ?_))) (by intro q; cases q)
      cases b with
      | false => exact ih (no rfl)
      | true =>
        refine codeAny_handlers_suite_as (HandSPX.lands_againZ flA fun hB flB upB => ?_)
        have JB : Inv X pins σ1 H1 { s' with heap := hB } := J.landed nb flB.1 ((up.trans upA).trans upB) os ag
        obtain ⟨oB, vB, eB, zB, dB⟩ := flB.there
        refine store_ok (X := X.suite a ((a, oB) :: (X.pn ++ pins))) (v := .ref a) (JB.suite eB dB na off1 off2) hN hi (.inl hkn) rfl (fun s5 S5 => ?_) (.inr hkn)
        have run2 := (su a oB k d (X.pn ++ pins) zB ⟨_, dB⟩).run [] s5 _ H1 _ S5 (yes rfl a na)
        refine wpAny_mono run2 (fun f s6 out => ?_) (fun _ _ z => False.elim z)
        cases f with
        | next => obtain ⟨σ6, H6, S6, q6⟩ := out; exact gone_ok (S6.unsuite ok) hN hi hkn fun s7 J7 => ⟨_, _, J7, q6⟩
        | brk => obtain ⟨σ6, H6, S6, q6⟩ := out; exact gone_ok (S6.unsuite ok) hN hi hkn fun s7 J7 => ⟨_, _, J7, q6⟩
        | cont => obtain ⟨σ6, H6, S6, q6⟩ := out; exact gone_ok (S6.unsuite ok) hN hi hkn fun s7 J7 => ⟨_, _, J7, q6⟩
        | ret u => obtain ⟨v6, σ6, H6, S6, r6, q6⟩ := out; exact gone_ok (S6.unsuite ok) hN hi hkn fun s7 J7 => ⟨_, _, _, J7, r6, q6⟩
end
end L2

/-! ### != of lists whose things are equal, within one model -/
namespace NeL
open PySem PySem.SeqAt
open AutoSeq1 (wpAny_loadPart')
open MeetsSeq MeetsSeq2 MeetsSeq3 SeqRoads2
abbrev LsAt (s : Shared) (l : Addr) (xs : Array Value) (n : Nat) (dd : Option Addr) (sl : Array (Option Value)) : Prop := s.heap.get? l = some { cls := .type "list", dict := dd, data := .seq xs n, slots := sl }
section
variable {P : Program} {w : World}
theorem loop_ne (l b : Addr) (xs ys : Array Value) (n m : Nat) (d1 d2 : Option Addr) (s1 s2 : Array (Option Value)) (hs : xs.size = ys.size) (k : Nat) : ∀ i : Nat, xs.size - i = k →
    MeetsIn P w (Builtin.«list.__eq__.loop» ⟨[.ref l, .ref b, rawInt i, rawInt 3], []⟩) (fun A R s => LsAt s l xs n d1 s1 ∧ LsAt s b ys m d2 s2 ∧ (∀ j (h1 : j < xs.size) (h2 : j < ys.size), EqP P w A.in1 s xs[j] ys[j] true) ∧ R (.ok (.ret (.bool false))) s) := by
  induction k with
  | zero =>
    intro i hi A R s hh
    obtain ⟨hp, g, d, tk, os⟩ := s
    obtain ⟨gl, gb, ge, r⟩ := hh
    wp_walk using wpAny_loadPart' gl, wpAny_loadPart' gb
    have n1 : xs[((i : Nat) : Int).toNat]? = none := by simp; omega
    have n2 : ys[((i : Nat) : Int).toNat]? = none := by simp; omega
    rw [n1, n2]
    wp_walk using wpAny_loadPart' gl, wpAny_loadPart' gb
    show R (.ok (.ret (.bool (xs.size != ys.size)))) _
    rw [hs, bne_self_eq_false]
    exact r
  | succ k ih =>
    intro i hi A R s hh
    obtain ⟨hp, g, d, tk, os⟩ := s
    obtain ⟨gl, gb, ge, r⟩ := hh
    wp_walk using wpAny_loadPart' gl, wpAny_loadPart' gb
    have l1 : i < xs.size := by omega
    have l2 : i < ys.size := by omega
    rw [show xs[((i : Nat) : Int).toNat]? = some xs[i] by simp [l1], show ys[((i : Nat) : Int).toNat]? = some ys[i] by simp [l2]]
    refine wpAny_bind (ge i l1 l2 _ _ ?_)
    wp_walk
    rw [show ((i : Int) + 1) = ((i + 1 : Nat) : Int) by push_cast; rfl]
    refine ⟨plainId_quiet plain_eq_loop _, codeAny_builtin entry_eq_loop ?_⟩
    rw [Around.under_plainId plain_eq_loop _]
    exact ih (i + 1) (by omega) A R _ ⟨gl, gb, ge, r⟩
theorem list_ne (l b : Addr) (xs ys : Array Value) (n m : Nat) (d1 d2 : Option Addr) (s1 s2 : Array (Option Value)) (hs : xs.size = ys.size) :
    MeetsIn P w (Builtin.«list.__ne__» ⟨[.ref l, .ref b], []⟩) (fun A R s => LsAt s l xs n d1 s1 ∧ LsAt s b ys m d2 s2 ∧ (∀ j (h1 : j < xs.size) (h2 : j < ys.size), EqP P w A.in1 s xs[j] ys[j] true) ∧ R (.ok (.ret (.bool false))) s) := by
  intro A R s hh
  obtain ⟨hp, g, d, tk, os⟩ := s
  obtain ⟨gl, gb, ge, r⟩ := hh
  have f3 := AutoSeq1.sub_list_list
  have nz : ¬ (xs.size != ys.size) = true := by simp [hs]
  wp_walk using wpAny_loadPart' gl, wpAny_loadPart' gb
  refine ⟨plainId_quiet plain_eq_loop _, codeAny_builtin entry_eq_loop ?_⟩
  rw [Around.under_plainId plain_eq_loop _]
  exact loop_ne l b xs ys n m d1 d2 s1 s2 hs _ 0 rfl A R _ ⟨gl, gb, ge, r⟩
theorem lists_ne {A : Around} {s : Shared} {l b : Addr} {xs ys : Array Value} (hl : s.heap.IsList l xs) (hb : s.heap.IsList b ys) (hs : xs.size = ys.size) (hu : A.units < cLine) (he : ∀ j (h1 : j < xs.size) (h2 : j < ys.size), EqP P w A.in1 s xs[j] ys[j] true) (E Q : Value → Shared → Prop) (q : Q (.bool false) s) :
    wpAny (model P w) A (richCompare .NotEq (.ref l) (.ref b)) Q E s := by
  obtain ⟨⟨c1, d1, t1, s1⟩, o1, e1, n, f1⟩ := id hl
  obtain ⟨⟨c2, d2, t2, s2⟩, o2, e2, m, f2⟩ := id hb
  simp only at e1 f1 e2 f2
  subst e1 f1 e2 f2
  have y1 : s.TypeIs (.ref l) "list" := ⟨_, o1, rfl⟩
  have y2 : s.TypeIs (.ref b) "list" := ⟨_, o2, rfl⟩
  refine wpAny_richCompare_same_room (op := .NotEq) y1 y2 F.slot_list_ne (call_meetsIn F.slot_list_ne y1 F.entry_list_ne (F.args_list_ne_2 _ _) (list_ne l b xs ys n m d1 d2 s1 s2 hs) ?_) hu
  exact ⟨o1, o2, he, show Value.bool false ≠ Value.notImplemented ∧ Q (.bool false) s from ⟨(fun x => nomatch x), q⟩⟩
end
end NeL

/-! ### dicts, what is shown of caught errors (printed by mk_bank16.py) -/
namespace L2
open PySem PySem.Spec PyProof.Rows
open TL (tl)
open Evl hiding RetV RetL
theorem putK_len (kvs : List (Key × V)) (k : Key) (v : V) : (putK kvs k v).length ≤ kvs.length + 1 := by
  unfold putK
  split
  · rw [List.length_map]; omega
  · rw [List.length_append]; simp
theorem dgetK {H : Hp} {d : Addr} {kvs : List (Key × V)} {s : Str} (h : H d = some (.dK kvs)) : DGet H d (.str s) (valV kvs (.inr s)) := .inl ⟨kvs, .inr s, .inl h, rfl, rfl⟩
theorem putK_nodup {kvs : List (Key × V)} {k : Key} {v : V} (h : (kvs.map (·.1)).Nodup) : ((putK kvs k v).map (·.1)).Nodup := by
  unfold putK
  cases ha : (kvs.any fun kv => decide (kv.1 = k)) with
  | true =>
    rw [if_pos rfl, List.map_map]
    refine (?_ : List.map _ kvs = kvs.map (·.1)) ▸ h
    refine List.map_congr_left fun p _ => ?_
    dsimp only [Function.comp]
    split <;> simp_all
  | false =>
    rw [if_neg (by decide), List.map_append, List.nodup_append]
    refine ⟨h, by simp, fun a ha2 b hb => ?_⟩
    obtain ⟨p, hp, rfl⟩ := List.mem_map.mp ha2
    have : b = k := by simpa using hb
    subst this
    intro he
    have : (kvs.any fun kv => decide (kv.1 = b)) = true := List.any_eq_true.mpr ⟨p, hp, by simpa using he⟩
    rw [ha] at this
    cases this
theorem c_lock {t : TS} {D : Ends} {σ : St} {H : Hp} {d : Addr} {u : HO} (hd : H d = some u) (hm : Mut (some u)) (h : ∀ od, t ⟨fun σ' H' => H' d = some (.frz od u) ∧ D.nx σ' (upd H' d u), fun v H' => H' d = some (.frz od u) ∧ D.rt v (upd H' d u), fun σ' H' => H' d = some (.frz od u) ∧ D.bk σ' (upd H' d u), fun σ' H' => H' d = some (.frz od u) ∧ D.ct σ' (upd H' d u)⟩ σ (upd H d (.frz od u))) : tLock t D σ H := ⟨d, u, hd, hm, h⟩
theorem c_forK {td : TE} {g : L2.TG} {tb : TS} {D : Ends} {σ : St} {H : Hp} (h : td σ H fun x H1 => ∃ d o, x = .ref d ∧ ((∃ kvs, H1 d = some (.frz o (.dK kvs)) ∧ ForI (Itk d o kvs) g tb D σ H1) ∨ ∃ kvs, H1 d = some (.frz o (.dT kvs)) ∧ ForI (Itkt d o kvs) g tb D σ H1)) : tFor (iKeys td) g tb D σ H := h
theorem forK {tb : TS} {D : Ends} {σ : St} {H : Hp} {d : Addr} {o : Obj} {kvs : List (Key × V)} {j : Nat} (Pv : Nat → St → Hp → Prop) (h0 : Pv 0 σ H) (hl : ∀ i σ' H', i ≤ kvs.length → Pv i σ' H' → H' d = some (.frz o (.dK kvs)))
    (hs : ∀ i k v σ' H', kvs[i]? = some (k, v) → Pv i σ' H' → tb { D with nx := Pv (i + 1), ct := Pv (i + 1), bk := D.nx } (σ'.set j (some (kV k))) H') (hd : ∀ σ' H', Pv kvs.length σ' H' → D.nx σ' H') : ForI (Itk d o kvs) (gName j) tb D σ H :=
  for_it walk_keys Pv h0 hl (fun i x σ' H' H'' _ p y => by
    obtain ⟨rfl, k, v, hk, rfl⟩ := y
    exact hs i k v σ' H'' hk p) hd
theorem valV_mem {kv : List (Key × V)} {k : Key} {v : V} (hn : (kv.map (·.1)).Nodup) (h : (k, v) ∈ kv) : valV kv k = some v := by
  induction kv with
  | nil => cases h
  | cons p r ih =>
    rw [List.map_cons, List.nodup_cons] at hn
    rcases List.mem_cons.mp h with e | h
    · subst e
      exact valV_pos rfl
    · have hne : ¬ p.1 = k := fun z => hn.1 (by rw [z]; exact List.mem_map.mpr ⟨(k, v), h, rfl⟩)
      rw [valV_neg hne]
      exact ih hn.2 h
theorem putK_len2 (kvs : List (Key × V)) (k : Key) (v : V) : (valV kvs k = none ∧ (putK kvs k v).length = kvs.length + 1) ∨ (putK kvs k v).length = kvs.length := by
  unfold putK
  cases h : (kvs.any fun kv => decide (kv.1 = k)) with
  | true => right; rw [if_pos rfl, List.length_map]
  | false =>
    left
    rw [valV_any] at h
    refine ⟨?_, by rw [if_neg (by decide), List.length_append]; rfl⟩
    cases hv : valV kvs k with
    | none => rfl
    | some x => rw [hv] at h; cases h
theorem valV_drop {kvs : List (Key × V)} {k k' : Key} : valV (dropK kvs k) k' = if k' = k then none else valV kvs k' := by
  induction kvs with
  | nil => split <;> rfl
  | cons p r ih =>
    by_cases e : p.1 = k
    · rw [dropK_pos e, ih]
      split
      · rfl
      · rename_i h
        rw [valV_neg (fun z => h (z.symm.trans e))]
    · rw [dropK_neg e]
      by_cases e2 : p.1 = k'
      · rw [valV_pos e2, valV_pos e2, if_neg (fun z => e (e2.trans z))]
      · rw [valV_neg e2, valV_neg e2, ih]
theorem c_dpop {σ : St} {H : Hp} {Q : VK} {td ty : TE} (h : td σ H fun x H1 => ∃ a, x = .ref a ∧ IsD H1 a ∧ ty σ H1 fun y H2 => ∃ kvs k v, H2 a = some (.dK kvs) ∧ y = kV k ∧ valV kvs k = some v ∧ Q v (upd H2 a (.dK (dropK kvs k)))) : tDPop1 td ty σ H Q := h
theorem c_lockE {t : TE} {Q : VK} {σ : St} {H : Hp} {d : Addr} {u : HO} (hd : H d = some u) (hm : Mut (some u)) (h : ∀ od, t σ (upd H d (.frz od u)) fun v H' => H' d = some (.frz od u) ∧ Q v (upd H' d u)) : tLockE t σ H Q := ⟨d, u, hd, hm, h⟩
theorem c_lcK {td : TE} {g : L2.TG} {tt : TT} {te : TE} {vs : List Nat} {σ : St} {H : Hp} {Q : VK} (h : td σ H fun x H1 => ∃ d o, x = .ref d ∧ ((∃ kvs, H1 d = some (.frz o (.dK kvs)) ∧ LcI (Itk d o kvs) g tt te vs σ H1 Q) ∨ ∃ kvs, H1 d = some (.frz o (.dT kvs)) ∧ LcI (Itkt d o kvs) g tt te vs σ H1 Q)) : tLc (iKeys td) g tt te vs σ H Q := h
theorem call_lenK {X : Cx} : CallR X (.builtin "len") (fun xs H Q => ∃ (a : Addr) (kvs : List (Key × V)), xs = [.ref a] ∧ Rd H a (.dK kvs) ∧ Q (.int kvs.length) H) := by
  intro pins s σ H xs us Q I r h
  obtain ⟨a, kvs, rfl, e, q⟩ := h
  rw [Vals.ref1 r]
  exact d_len I e fun t s' I' => ⟨.int _, H, I', ⟨_, rfl⟩, q⟩
theorem paired_up {α β : Type} {F G : α → β → Prop} (h : ∀ a b, F a b → G a b) : ∀ {l : List α} {m : List β}, Paired F l m → Paired G l m
  | _, _, .nil => .nil
  | _, _, .cons p q => .cons (h _ _ p) (paired_up h q)
theorem paired_snoc {α β : Type} {F : α → β → Prop} {a : α} {b : β} (p : F a b) : ∀ {l : List α} {m : List β}, Paired F l m → Paired F (l ++ [a]) (m ++ [b])
  | _, _, .nil => .cons p .nil
  | _, _, .cons q r => .cons q (paired_snoc p r)
theorem paired_len {α β : Type} {F : α → β → Prop} : ∀ {l : List α} {m : List β}, Paired F l m → l.length = m.length
  | _, _, .nil => rfl
  | _, _, .cons _ q => by rw [List.length_cons, List.length_cons, paired_len q]
theorem lcK {d : Addr} {o : Obj} {kvs : List (Key × V)} {g : L2.TG} {tt : TT} {te : TE} {vs : List Nat} {σ : St} {H : Hp} {Q : VK} (F : Key × V → Bool) (R0 : Key × V → V → Hp → Prop) (hst : ∀ kv y G G2, NL G G2 → R0 kv y G → R0 kv y G2)
    (hd : H d = some (.frz o (.dK kvs))) (hn : kvs.length ≤ 1000)
    (ht : ∀ (i : Nat) (kv : Key × V), kvs[i]? = some kv → ∀ H2, Ex H H2 → ∀ (R : V → Hp → Prop) (N : Hp → Prop), (F kv = true → ∀ y H3, Ex H2 H3 → R0 kv y H3 → R y H3) → (F kv = false → ∀ H3, Ex H2 H3 → N H3) →
      g (kV kv.1) (wipe σ vs) H2 fun σ2 H3 => wipe σ2 vs = wipe σ vs ∧ tt σ2 H3 fun c H4 => if c = true then te σ2 H4 fun y H5 => R y H5 else N H4)
    (k : ∀ ys p H2, Paired (fun y kv => R0 kv y H2) ys (kvs.filter F) → H p = none → Ex H H2 → H2 p = some (.lst ys) → Q (.ref p) H2) : LcI (Itk d o kvs) g tt te vs σ H Q := by
  refine fun D hD => ?_
  have ex : ∀ {G : Hp} {o : HO}, Ex H G → Ex H (upd G D o) := fun e b u hb => by rw [upd_ne (ne_of_none hb hD)]; exact e b u hb
  refine lc_it walk_keys (fun i H' => i ≤ kvs.length ∧ Ex H H' ∧ ∃ ys, Paired (fun y kv => R0 kv y H') ys ((kvs.take i).filter F) ∧ H' D = some (.lst ys))
    ⟨Nat.zero_le _, ex (Ex.refl _), [], .nil, upd_same⟩ (fun i H' _ p => p.2.1 _ _ hd) (fun i x H' H'' hi p y => ?_) (fun H' p => ?_)
  · obtain ⟨rfl, key, v, hk, rfl⟩ := y
    obtain ⟨_, e1, ys, hy, hD'⟩ := p
    have hyl : ys.length ≤ i := by
      rw [paired_len hy]
      exact Nat.le_trans (List.length_filter_le _ _) (by rw [List.length_take]; omega)
    have htk : kvs.take (i + 1) = kvs.take i ++ [(key, v)] := by rw [List.take_add_one, hk]; rfl
    refine ht i (key, v) hk H'' e1 (fun y H4 => ∃ acc, H4 D = some (.lst acc) ∧ acc.length < sizeLine ∧ (i + 1 ≤ kvs.length ∧ Ex H (upd H4 D (.lst (acc ++ [y]))) ∧ ∃ zs, Paired (fun z kv => R0 kv z (upd H4 D (.lst (acc ++ [y])))) zs ((kvs.take (i + 1)).filter F) ∧ upd H4 D (.lst (acc ++ [y])) D = some (.lst zs))) (fun H4 => i + 1 ≤ kvs.length ∧ Ex H H4 ∧ ∃ zs, Paired (fun y kv => R0 kv y H4) zs ((kvs.take (i + 1)).filter F) ∧ H4 D = some (.lst zs)) (fun hF y H3 e3 py => ?_) (fun hF H3 e3 => ?_)
    · have hD3 := e3 _ _ hD'
      have eD : NL H3 (upd H3 D (.lst (ys ++ [y]))) := NL.upd hD3
      refine ⟨ys, hD3, Evl.sz_lt (by omega), hi, ex (e1.trans e3), ys ++ [y], ?_, upd_same⟩
      rw [htk, List.filter_append, List.filter_cons_of_pos hF, List.filter_nil]
      exact paired_snoc (F := fun a b => R0 b a (upd H3 D (HO.lst (ys ++ [y])))) (hst _ _ _ _ eD py) (paired_up (fun a b h => hst _ _ _ _ eD (hst _ _ _ _ (NL.of e3) h)) hy)
    · refine ⟨hi, e1.trans e3, ys, ?_, e3 _ _ hD'⟩
      rw [htk, List.filter_append, List.filter_cons_of_neg (by rw [hF]; decide), List.filter_nil, List.append_nil]
      exact paired_up (fun a b h => hst _ _ _ _ (NL.of e3) h) hy
  · obtain ⟨_, e1, ys, hy, hD'⟩ := p
    rw [List.take_length] at hy
    exact k ys D H' hy hD e1 hD'
theorem ex_unlock {H G : Hp} {d : Addr} {od : Obj} {u : HO} (hd : H d = some u) (e : Ex (upd H d (.frz od u)) G) : Ex H (upd G d u) := fun a o ha => by
  by_cases h : a = d
  · subst h
    rw [upd_same, ← ha, hd]
  · rw [upd_ne h]
    exact e a o (by rw [upd_ne h]; exact ha)
theorem putK_fresh {kvs : List (Key × V)} {k : Key} {v : V} (h : k ∉ kvs.map (·.1)) : putK kvs k v = kvs ++ [(k, v)] := by
  unfold putK
  rw [if_neg]
  intro ha
  obtain ⟨p, hp, he⟩ := List.any_eq_true.mp ha
  exact h (List.mem_map.mpr ⟨p, hp, by simpa using he⟩)
theorem mergeK_nodup : ∀ (more kvs : List (Key × V)), ((kvs ++ more).map (·.1)).Nodup → mergeK kvs more = kvs ++ more
  | [], kvs, _ => (List.append_nil _).symm
  | p :: more, kvs, h => by
    have hp : p.1 ∉ kvs.map (·.1) := by
      rw [List.map_append, List.nodup_append] at h
      intro hm
      exact h.2.2 _ hm _ (List.mem_map.mpr ⟨p, List.mem_cons_self, rfl⟩) rfl
    show mergeK (putK kvs p.1 p.2) more = _
    rw [putK_fresh hp, mergeK_nodup more (kvs ++ [(p.1, p.2)]) (by rw [List.append_assoc]; exact h), List.append_assoc]
    rfl
theorem valV_filter {kvs : List (Key × V)} {F : Key × V → Bool} {k : Key} (h : ∀ v v', F (k, v) = F (k, v')) {v0 : V} (hF : F (k, v0) = true) : valV (kvs.filter F) k = valV kvs k := by
  induction kvs with
  | nil => rfl
  | cons p r ih =>
    by_cases e : p.1 = k
    · have hp : F p = true := by rw [← hF, show p = (k, p.2) from by rw [← e]]; exact h _ _
      rw [List.filter_cons_of_pos hp, valV_pos e, valV_pos e]
    · rw [valV_neg e]
      cases hp : F p with
      | true => rw [List.filter_cons_of_pos hp, valV_neg e, ih]
      | false => rw [List.filter_cons_of_neg (by rw [hp]; decide), ih]
theorem eqK_refl {kv : List (Key × V)} (hn : (kv.map (·.1)).Nodup) (hf : ∀ p ∈ kv, okV p.2 = true) : eqK kv kv = true := by
  unfold eqK
  rw [beq_self_eq_true, Bool.true_and, List.all_eq_true]
  intro p hp
  rw [valV_mem (k := p.1) (v := p.2) hn hp]
  exact eqV_refl (okV_flat (hf p hp))
def fK (kv : List (Key × V)) (s : Str) : Str := match valV kv (.inr s) with
  | some (.str s') => s'
  | _ => s
theorem fK_of {kv : List (Key × V)} {s s' : Str} (h : valV kv (.inr s) = some (.str s')) : fK kv s = s' := by unfold fK; rw [h]
theorem exB_put {b ld : Addr} {H G : Hp} {o : HO} (e : ExB b H G) (h : H ld = none) : ExB b H (upd G ld o) := fun a q na ha => by rw [upd_ne (ne_of_none ha h)]; exact e a q na ha
theorem box_put {b ld : Addr} {G : Hp} {o : HO} (h : BoxAt G b) (n : b ≠ ld) : BoxAt (upd G ld o) b := by
  obtain ⟨x, y, z, h0, q⟩ := h
  exact ⟨x, y, z, h0, by rw [upd_ne n]; exact q⟩
theorem freshB {b ld : Addr} {H G : Hp} (e : ExB b H G) (hb : BoxAt G b) (h : G ld = none) : H ld = none := by
  cases hq : H ld with
  | none => rfl
  | some o =>
    by_cases hn : ld = b
    · subst hn
      obtain ⟨ob, hob⟩ := hb.some
      exact absurd rfl (ne_of_none hob h)
    · have := e ld o hn hq
      rw [h] at this
      cases this
theorem at_last {xs : List V} (h : 0 < xs.length) : atI xs (-1) = xs[xs.length - 1]? := by
  unfold atI ixN
  rw [if_neg (by omega), if_pos (by omega)]
  show xs[_]? = _
  congr 1
  omega
theorem nodup_at {l : List Str} (h : l.Nodup) {j i : Nat} {s z : Str} (hj : l[j]? = some s) (hz : z ∈ l.take i) (hi : i ≤ j) : z ≠ s := by
  obtain ⟨k, hk, he⟩ := List.mem_iff_getElem.mp hz
  rw [List.length_take] at hk
  rw [List.getElem_take] at he
  intro e
  have hjl := (List.getElem?_eq_some_iff.mp hj).1
  have e2 : l[k]'(by omega) = l[j]'hjl := by rw [he, e]; exact ((List.getElem?_eq_some_iff.mp hj).2).symm
  have := (List.getElem_inj h).mp e2
  omega
theorem exB_ex {b : Addr} {H G G2 : Hp} (e : Ex H G) (hb : H b = none) (x : ExB b G G2) : Ex H G2 := fun a o h => x a o (ne_of_none h hb) (e a o h)
def RpV (K : PySem.W.Frag) (H : Hp) (v : V) (t : Str) : Prop := ∃ d : PyData, (Dp K H v d ∧ RpOk 50 100000 d ∨ ∃ a, v = .ref a ∧ H a = some (.dK []) ∧ d = .dict []) ∧ t = d.shown
def rReprQ (K : PySem.W.Frag) : List V → Hp → VK → Prop := fun xs H Q => ∃ (v : V) (t : Str), xs = [v] ∧ RpV K H v t ∧ Q (.str t) H
theorem un62 {n : Nat} {A : Around} (h : Room n A) : A.units + 62 < cLine := by have := h.un; omega
theorem call_reprQ {X : Cx} (hgd : X.A.guards = some []) (hu : X.A.units + 62 < cLine) : CallR X (.builtin "repr") (rReprQ X.K) := by
  intro pins s σ H xs us Q I r h
  obtain ⟨v, t, rfl, ⟨d, hd, rfl⟩, q⟩ := h
  cases r with
  | cons ra rr =>
    cases rr
    rename_i u
    rcases hd with ⟨hd, hk⟩ | ⟨a, rfl, ha, rfl⟩
    · have hz : d.shown.length ≤ sizeLine := PyData.shown_fits_bulk (B := 13) (by decide) (by decide) hk.2.2.1 (Nat.le_trans hk.2.2.2.2 (by decide))
      have hdp : d.depth ≤ 60 := Nat.le_trans hk.2.2.2.1 (by decide)
      have hnd : d.hasDict = false := PyData.hasDict_of_canLay d hk.2.1
      cases hd with
      | non =>
        cases ra
        exact PySem.P.repr_of_none ⟨.str _, H, I.tok _, ⟨_, by rw [PyData.shown]⟩, q⟩
      | bl b =>
        cases ra
        exact PySem.P.repr_of_bool ⟨.str _, H, I.tok _, ⟨_, by rw [PyData.shown]⟩, q⟩
      | int i =>
        obtain ⟨t, rfl⟩ := ra
        exact PySem.P.repr_of_int (by have := hk.1; simpa only [PyData.showable, decide_eq_true_eq] using this) ⟨.str _, H, I.tok _, ⟨_, by rw [PyData.shown]⟩, q⟩
      | str x =>
        obtain ⟨t, rfl⟩ := ra
        rw [PyData.shown] at hz
        exact PySem.P.repr_of_str ⟨.str _, H, I.tok _, ⟨_, by rw [PyData.shown]⟩, q⟩ hz
      | lst hs ha =>
        cases ra
        obtain ⟨as, rd⟩ := Dp.reads I _ _ _ (.lst hs ha) rfl
        refine repr_of_reads' rd hk.1 (fun z => by rw [hnd] at z; cases z) hgd (by omega) (fun _ _ z => z) (fun h' u tk hk => ?_) hz
        exact ⟨.str _, H, I.kept (t' := tk) hk, ⟨_, rfl⟩, q⟩
      | tup hs ha =>
        cases ra
        obtain ⟨as, rd⟩ := Dp.reads I _ _ _ (.tup hs ha) rfl
        refine repr_of_reads' rd hk.1 (fun z => by rw [hnd] at z; cases z) hgd (by omega) (fun _ _ z => z) (fun h' u tk hk => ?_) hz
        exact ⟨.str _, H, I.kept (t' := tk) hk, ⟨_, rfl⟩, q⟩
    · cases (show u = Value.ref a from ra)
      obtain ⟨_, hsys, vs, hkv, o, es, ep, ho, hx, hda, _, hp, _⟩ := I.hok a _ ha
      cases hkv
      have he : es = #[] := by
        obtain ⟨l⟩ := es
        cases hp
        rfl
      subst he
      have rd : Reads s.heap (.ref a) (.dict []) [a] := Reads.dict (kvs := []) (as := []) (bs := []) ho hx.1 hda (by exact ReadsAll.nil) (by exact ReadsAll.nil)
      refine repr_of_reads' rd (by simp only [PyData.showable, PyData.showableKv]) (fun _ z => ?_) hgd (by simp only [PyData.depth, PyData.depthKv]; omega) (fun _ _ z => z) (fun h' u tk hk => ?_) (by simp only [PyData.shown, PyData.shownKv]; rw [sizeLine_eq]; decide +kernel)
      · have : sysModules = a := by simpa using z
        rw [this] at hsys
        simp at hsys
      · exact ⟨.str _, H, I.kept (t' := tk) hk, ⟨_, rfl⟩, q⟩
theorem call_reprS {X : Cx} {a : Addr} {pn : List (Addr × Obj)} (hgd : X.A.guards = some []) (hu : X.A.units + 62 < cLine) : CallR (X.suite a pn) (.builtin "repr") (rReprQ X.K) := call_reprQ (X := X.suite a pn) hgd hu
def rIsP (K : PySem.W.Frag) (D a : Addr) (cls : Value) (d : Option Addr) : List V → Hp → VK → Prop := fun xs H Q => ∃ (c : V) (cv : Value) (b : Bool), xs = [.ref a, c] ∧ ClsV c cv ∧ cls = .ref D ∧ (∃ (dd : Addr) (fs : List (Str × V)), d = some dd ∧ H dd = some (.xd fs)) ∧ PySem.W.kitOne K (.ref D) cv = some b ∧ Q (.bl b) H
theorem call_isP {X : Cx} {a D : Addr} {oe : Obj} {cls : Value} {d : Option Addr} {pn : List (Addr × Obj)} (C : IcC X.K D) (hz : Zc cls d oe) (hf : ∃ vs, oe.data = .fields vs) : CallR (X.suite a ((a, oe) :: pn)) (.builtin "isinstance") (rIsP X.K D a cls d) := by
  intro pins s σ H xs us Q I r h
  obtain ⟨c, cv, b, rfl, hcv, rfl, ⟨dd, fs, rfl, ea⟩, e, q⟩ := h
  cases r with
  | cons rx rr =>
    cases rr with
    | cons rt rr =>
      cases rr
      cases rx
      have ec := hcv.eq rt
      subst ec
      obtain ⟨hget, _⟩ := I.pin (a, oe) (List.mem_append.mpr (.inl List.mem_cons_self))
      obtain ⟨vs, hd⟩ := hf
      have hx : ObjOk X.prog X.w H s.heap dd (.xd fs) := I.hok dd _ ea
      obtain ⟨mA, hns, hr⟩ := hx
      obtain ⟨od, ho, hl⟩ := lookIn_ns hns
      have J : PySem.W.InstAt s.heap a oe D (some od) := ⟨hget, hz.1, by unfold PySem.W.notCls; rw [hd] <;> rfl, by rw [hz.2]; exact ho⟩
      exact PySem.W.kia_one (PySem.W.kitx_exc C.cl C.xf.ga C.xf.gg C.xf.exC C.ha C.hn C.ht C.hm) I.kIn J e (fun z => nomatch z) fun tk => ⟨.bl b, H, I.kept (t' := tk) fun _ _ z => z, rfl, q⟩
theorem okc_repr {q c : Nat} (hq : q < 1114112) (hc : c < 1114112) : ∀ z ∈ Builtin.Str.reprChar q c, z < 1114112 := by
  intro z hz
  have hd : ∀ w, z ∈ (List.replicate (w - ((Nat.toDigits 16 c).map Char.toNat).length) 48 ++ (Nat.toDigits 16 c).map Char.toNat) → z < 1114112 := by
    intro w hz
    rcases List.mem_append.mp hz with h | h
    · have := List.eq_of_mem_replicate h; omega
    · obtain ⟨ch, _, rfl⟩ := List.mem_map.mp h
      rcases ch.valid with h | h
      · exact Nat.lt_trans h (by decide)
      · exact h.2
  unfold Builtin.Str.reprChar at hz
  dsimp only at hz
  repeat' split at hz
  all_goals simp only [List.mem_cons, List.mem_append, List.not_mem_nil, or_false] at hz
  all_goals first | omega | (rcases hz with (h | h) | h; · omega
                             · omega
                             · exact hd _ (List.mem_append.mpr h))
theorem okf_repr (q : Nat) (hq : q < 1114112) : ∀ (l : List Nat) (acc : Array Nat), (∀ z ∈ acc.toList, z < 1114112) → (∀ c ∈ l, c < 1114112) → ∀ z ∈ (l.foldl (fun out c => out ++ (Builtin.Str.reprChar q c).toArray) acc).toList, z < 1114112
  | [], acc, h, _ => h
  | c :: r, acc, h, hl => by
    rw [List.foldl_cons]
    refine okf_repr q hq r _ (fun z hz => ?_) fun d hd => hl d (List.mem_cons_of_mem _ hd)
    rw [Array.toList_append] at hz
    rcases List.mem_append.mp hz with h2 | h2
    · exact h z h2
    · exact okc_repr hq (hl c List.mem_cons_self) z h2
theorem okT_repr {x : Str} (h : OkT x) : OkT (reprText x) := by
  have hq : reprQuote x < 1114112 := by
    unfold reprQuote
    split <;> omega
  intro c hc
  have hc2 : c ∈ ((x.cps.foldl (fun out c => out ++ (Builtin.Str.reprChar (reprQuote x) c).toArray) #[reprQuote x]).push (reprQuote x)).toList := hc
  rw [Array.toList_push, ← Array.foldl_toList] at hc2
  rcases List.mem_append.mp hc2 with h2 | h2
  · refine okf_repr _ hq _ _ (fun z hz => ?_) (fun z hz => h z hz) c h2
    have : z = reprQuote x := by simpa using hz
    omega
  · have : c = reprQuote x := by simpa using h2
    omega
/-! new ones -/
section
variable {X : Cx} {σ : St} {H : Hp} {Q : VK} {D : Ends}
theorem c_dget2 {td ty tx : TE} (h : td σ H fun x H1 => ∃ a, x = .ref a ∧ IsD H1 a ∧ ty σ H1 fun y H2 => tx σ H2 fun z H3 => ∃ o, DGet H3 a y o ∧ Q (o.getD z) H3) : tDGet2 td ty tx σ H Q := h
theorem c_dget1 {td ty : TE} (h : td σ H fun x H1 => ∃ a, x = .ref a ∧ IsD H1 a ∧ ty σ H1 fun y H2 => ∃ o, DGet H2 a y o ∧ Q (o.getD .non) H2) : tDGet1 td ty σ H Q := h
theorem isD {d : Addr} {kvs : List (Key × V)} (h : H d = some (.dK kvs)) : IsD H d := .inl ⟨kvs, .inl h⟩
theorem isDz {d : Addr} {o : Obj} {kvs : List (Key × V)} (h : H d = some (.frz o (.dK kvs))) : IsD H d := .inl ⟨kvs, .inr ⟨o, h⟩⟩
theorem dgetZ {d : Addr} {o : Obj} {kvs : List (Key × V)} {s : Str} (h : H d = some (.frz o (.dK kvs))) : DGet H d (.str s) (valV kvs (.inr s)) := .inl ⟨kvs, .inr s, .inr ⟨o, h⟩, rfl, rfl⟩
theorem c_forIt {td : TE} {g : TG} {tb : TS} (h : td σ H fun x H1 => ∃ d o kvs, x = .ref d ∧ H1 d = some (.frz o (.dK kvs)) ∧ ForI (Iti d o kvs) g tb D σ H1) : tFor (iItems td) g tb D σ H := h
/-- for k, v in d.items() -/
theorem forIt {tb : TS} {g : TG} {d : Addr} {o : Obj} {kvs : List (Key × V)} (Pv : Nat → St → Hp → Prop) (h0 : Pv 0 σ H) (hl : ∀ i σ' H', i ≤ kvs.length → Pv i σ' H' → H' d = some (.frz o (.dK kvs)))
    (hs : ∀ i k v T σ' H', kvs[i]? = some (k, v) → Pv i σ' H' → H' T = none → g (.ref T) σ' (upd H' T (.tup [kV k, v])) fun σ2 H2 => tb { D with nx := Pv (i + 1), ct := Pv (i + 1), bk := D.nx } σ2 H2)
    (hd : ∀ σ' H', Pv kvs.length σ' H' → D.nx σ' H') : ForI (Iti d o kvs) g tb D σ H :=
  for_it walk_items Pv h0 hl (fun i v σ' H' H'' hi p y => by
    obtain ⟨T, x, z, rfl, hT, rfl, ex, ez⟩ := y
    cases hk : kvs[i]? with
    | none =>
      have h1 : (kvs[i]?.map fun kv => kV kv.1) = some x := ex
      rw [hk] at h1
      cases h1
    | some kv =>
      have h1 : (kvs[i]?.map fun kv => kV kv.1) = some x := ex
      have h2 : kvs[i]?.map Prod.snd = some z := ez
      rw [hk] at h1 h2
      cases h1
      cases h2
      exact hs i kv.1 kv.2 T σ' H' hk p hT) hd
/-- a dict that was locked is let go ahead of a statement -/
def tUnl (H0 : Hp) (t : TS) : TS := fun D σ H => ∃ d od u, H d = some (.frz od u) ∧ (∀ o' u', H0 d ≠ some (.frz o' u')) ∧ t D σ (upd H d u)
theorem ps_unl {st : Stmt} {t : TS} (h : PS X st t) : PS X st (tUnl X.H_0 t) := ⟨fun pins s σ H D I hw => let ⟨_, _, _, e, n, q⟩ := hw; h.run pins s σ _ D (I.unlock e n) q⟩
theorem c_listIt {te : TE} (h : te σ H fun x H1 => LiI.rItemsL x H1 Q) : LiI.tListItems te σ H Q := h
/-- s * n, n from 0 -/
def rRepA : R2 := fun x y H Q => ∃ (z : Str) (n : Int), x = .str z ∧ y = .int n ∧ 0 ≤ n ∧ n ≤ 1000 ∧ 0 < z.length ∧ z.length ≤ 100 ∧ Q (.str (repS z n.toNat)) H
theorem op_rep_strA : OpR X (binaryOp .Mult) rRepA := by
  intro pins s σ H x y v u Q I rx ry h
  obtain ⟨z, n, rfl, rfl, h0, h1, z0, z1, q⟩ := h
  rcases (by omega : n = 0 ∨ n = 1 ∨ 2 ≤ n) with rfl | rfl | h2
  · exact op_rep_str01 pins s σ H _ _ v u Q I rx ry ⟨z, 0, rfl, rfl, .inl ⟨rfl, q⟩⟩
  · refine op_rep_str01 pins s σ H _ _ v u Q I rx ry ⟨z, 1, rfl, rfl, .inr ⟨rfl, ?_⟩⟩
    have e : repS z (Int.toNat 1) = z := by
      show repS z 1 = z
      simp [repS]
    rw [e] at q
    exact q
  · exact op_rep_str pins s σ H _ _ v u Q I rx ry ⟨z, n, rfl, rfl, h2, by omega, z0, z1, q⟩
theorem rep_mem (a : Array Nat) : ∀ (n : Nat) (acc : Array Nat) (c : Nat), c ∈ ((List.replicate n a).foldl (· ++ ·) acc).toList → c ∈ acc.toList ∨ c ∈ a.toList
  | 0, acc, c, h => .inl (by simpa using h)
  | n + 1, acc, c, h => by
    rw [List.replicate_succ, List.foldl_cons] at h
    rcases rep_mem a n _ c h with h | h
    · rw [Array.toList_append] at h
      exact List.mem_append.mp h
    · exact .inr h
/-- a text of at most n signs that may be shown -/
def Tx (n : Nat) (s : Str) : Prop := OkT s ∧ s.length ≤ n
theorem Tx.mono {m n : Nat} {s : Str} (h : Tx m s) (k : m ≤ n) : Tx n s := ⟨h.1, Nat.le_trans h.2 k⟩
theorem Tx.app {m n : Nat} {s t : Str} (h : Tx m s) (k : Tx n t) : Tx (m + n) (s ++ t) := ⟨h.1.app k.1, by rw [add_len]; have := h.2; have := k.2; omega⟩
theorem Tx.rep {m : Nat} {s : Str} (h : Tx m s) (n : Nat) : Tx (n * m) (repS s n) := by
  refine ⟨fun c hc => ?_, by rw [repS_len]; exact Nat.mul_le_mul_left _ h.2⟩
  have hc2 : c ∈ ((List.replicate n s.cps).foldl (· ++ ·) #[]).toList := hc
  rcases rep_mem s.cps n #[] c hc2 with h2 | h2
  · simp at h2
  · exact h.1 c h2
theorem cut_len (z : Str) (lo hi : Option Int) : (cutS z lo hi).length ≤ z.length := by
  rw [← tl_len, tl_cut, List.length_take, List.length_drop, tl_len]
  omega
theorem Tx.cut {m : Nat} {s : Str} (h : Tx m s) (lo hi : Option Int) : Tx m (cutS s lo hi) := ⟨h.1.cut lo hi, Nat.le_trans (cut_len s lo hi) h.2⟩
theorem tx_sign {c : Nat} (h : c < 1114112) : Tx 1 ⟨#[c]⟩ := ⟨fun d hd => by
  have : d = c := by simpa [tl] using hd
  omega, Nat.le_refl _⟩
theorem tx_lit {n : Nat} {t : Str} (h : ((tl t).all (fun c => decide (c < 1114112)) && decide (t.length ≤ n)) = true) : Tx n t := by
  rw [Bool.and_eq_true, decide_eq_true_eq] at h
  exact ⟨OkT.lit h.1, h.2⟩
theorem at_str {ns : List Str} {d : Int} (h0 : 0 ≤ d) (h1 : d < (ns.length : Int)) : ∃ s, atI (ns.map V.str) d = some (.str s) ∧ s ∈ ns := by
  obtain ⟨j, rfl⟩ := Int.eq_ofNat_of_zero_le h0
  have hj : j < ns.length := by omega
  exact ⟨ns[j], atI_nat (by rw [List.getElem?_map, List.getElem?_eq_getElem hj] <;> rfl), List.getElem_mem hj⟩
theorem at_tl {t : Str} {n : Nat} {d : Int} (h0 : 0 ≤ d) (h1 : d < (t.length : Int)) (ht : Tx n t) : ∃ c, atI (tl t) d = some c ∧ c < 1114112 := by
  obtain ⟨j, rfl⟩ := Int.eq_ofNat_of_zero_le h0
  have hj : j < (tl t).length := by rw [tl_len]; omega
  exact ⟨(tl t)[j], atI_nat (List.getElem?_eq_getElem hj), ht.1 _ (List.getElem_mem hj)⟩
end
/-! != of two lists of dicts that are equal -/
section
variable {X : Cx} {pins : List (Addr × Obj)} {σ : St} {H : Hp} {s : Shared}
theorem hitsA (I : Inv X pins σ H s) {A : Around} (hu : A.units + 66 < cLine) {ls : List (Key × V)} {vb : List (Key × Value)} (rb : KV ls vb) (fl : ∀ k u, valV ls k = some u → okV u = true) {ks : List (Key × V)} {va : List (Key × Value)} (ra : KV ks va) (fk : ∀ p ∈ ks, okV p.2 = true) :
    PySem.W.KeqHits A.in1 s vb va (ks.all fun p => match valV ls p.1 with | some u => eqV p.2 u | none => false) := by
  unfold KV at ra
  induction ra with
  | nil => exact .nil
  | @cons p q ps qs h t ih =>
    obtain ⟨key, v⟩ := q
    obtain ⟨h1, h2⟩ := h
    have h1' : p.1 = key := h1
    have ih' := ih fun p' hm => fk p' (List.mem_cons_of_mem _ hm)
    rw [List.all_cons]
    have rr : RelO (valV ls p.1) (PySem.valueAt vb p.1) := rb.val p.1
    rw [h1'] at rr ⊢
    cases e : valV ls key with
    | none =>
      rw [e] at rr
      cases e2 : PySem.valueAt vb key with
      | none => exact .miss e2
      | some y =>
        rw [e2] at rr
        exact rr.elim
    | some u =>
      rw [e] at rr
      obtain ⟨y, hy, ry⟩ := rr.some_of
      have fp := fk p List.mem_cons_self
      have fu := fl key u e
      obtain ⟨as, r1⟩ := Dp.reads I (dOf p.2) p.2 v (dp_flat (okV_flat fp)) h2
      obtain ⟨bs, r2⟩ := Dp.reads I (dOf u) u y (dp_flat (okV_flat fu)) ry
      have z := PySem.W.keq_at (A := A) r1 r2 (shaped_flat fp) (shaped_flat fu) (by show A.units + 1 + 64 < cLine; omega)
      rw [eqv_flat (okV_flat fp) (okV_flat fu)] at z
      exact .hit hy z ih'
/-- two dicts of flat things that are equal -/
def EqDs (H : Hp) (u v : V) : Prop := ∃ (d e : Addr) (ks ls : List (Key × V)), u = .ref d ∧ v = .ref e ∧ d ≠ e ∧ H d = some (.dK ks) ∧ H e = some (.dK ls) ∧ (∀ p ∈ ks, okV p.2 = true) ∧ (∀ k u, valV ls k = some u → okV u = true) ∧ eqK ks ls = true
theorem eqds_at (I : Inv X pins σ H s) {A : Around} (hu : A.units + 66 < cLine) {u v : V} {x y : Value} (h : EqDs H u v) (rx : RelV u x) (ry : RelV v y) : SeqAt.EqP X.prog X.w A s x y true := by
  obtain ⟨d, e, ks, ls, rfl, rfl, hde, hd, he, fk, fl, hq⟩ := h
  cases (show x = Value.ref d from rx)
  cases (show y = Value.ref e from ry)
  obtain ⟨_, ya, va, ra, da⟩ := (show ObjOk X.prog X.w H s.heap d (.dK ks) from I.hok d _ hd)
  obtain ⟨_, yb, vb, rb, db⟩ := (show ObjOk X.prog X.w H s.heap e (.dK ls) from I.hok e _ he)
  refine SeqAt.eqP_refs hde fun E Q q => PySem.W.keq_eq (knd := mixKind X.prog X.w) ya yb da db (by omega) (fun _ => hitsA I hu rb fl ra fk) ?_
  rw [← ra.length, ← rb.length]
  unfold eqK at hq
  rw [hq]
  exact q
theorem eqds_all (I : Inv X pins σ H s) {A : Around} (hu : A.units + 66 < cLine) : ∀ {xs ys : List V}, Paired (EqDs H) xs ys → ∀ {us ws : List Value}, Vals xs us → Vals ys ws → ∀ (j : Nat) (h1 : j < us.length) (h2 : j < ws.length), SeqAt.EqP X.prog X.w A s us[j] ws[j] true
  | _, _, .nil, _, _, r1, _, j, h1, _ => by cases r1; exact absurd h1 (Nat.not_lt_zero j)
  | _, _, .cons h k, _, _, .cons a1 b1, .cons a2 b2, 0, _, _ => eqds_at I hu h a1 a2
  | _, _, .cons h k, _, _, .cons a1 b1, .cons a2 b2, j + 1, h1, h2 => eqds_all I hu k b1 b2 j (Nat.lt_of_succ_lt_succ h1) (Nat.lt_of_succ_lt_succ h2)
def rNeLD : R2 := fun x y H Q => ∃ (a b : Addr) (xs ys : List V), x = .ref a ∧ y = .ref b ∧ H a = some (.lst xs) ∧ H b = some (.lst ys) ∧ Paired (EqDs H) xs ys ∧ Q (.bl false) H
theorem op_neLD (hu : X.A.units + 68 < cLine) : OpR X (compareOp .NotEq) rNeLD := by
  intro pins s σ H x y v u Q I rx ry h
  obtain ⟨a, b, xs, ys, rfl, rfl, ha, hb, hp, q⟩ := h
  cases (show v = Value.ref a from rx)
  cases (show u = Value.ref b from ry)
  obtain ⟨us, r1, p1, _⟩ := I.list (SqL.of ha)
  obtain ⟨ws, r2, p2, _⟩ := I.list (SqL.of hb)
  have hsz : us.toArray.size = ws.toArray.size := by
    rw [List.size_toArray, List.size_toArray, ← r1.length, ← r2.length]
    exact Paired.length hp
  refine NeL.lists_ne p1.isList p2.isList hsz (by omega) (fun j h1 h2 => ?_) _ _ ⟨.bl false, H, I, rfl, q⟩
  have k := eqds_all I (A := X.A.in1) (by show X.A.units + 1 + 66 < cLine; omega) hp r1 r2 j (by simpa using h1) (by simpa using h2)
  simpa using k
theorem hu68 {A : Around} {k : Nat} (hr : Room k A) : A.units + 68 < cLine := by have := hr.un; omega
end
end L2

open L2 in
local macro_rules | `(tactic| walk_at "s") => `(tactic| with_reducible (first
  | refine c_var (by with_unfolding_all rfl) ?_ | refine c_c ?_ | refine c_op ?_ | refine c_test ?_ | refine c_cons ?_ | refine c_nil ?_ | refine c_call ?_ | refine c_cb ?_ | refine c_seq ?_ | refine c_asg ?_ | refine c_gName ?_ | refine c_ret ?_ | refine c_ifS ?_
  | refine c_nx ?_ | refine c_rt ?_ | refine c_bk ?_ | refine c_ct ?_ | refine c_next ?_ | refine c_drop ?_ | refine c_un ?_ | refine c_b ?_ | refine c_and ?_ | refine c_or ?_ | refine c_not ?_ | refine c_andV ?_ | refine c_orV ?_ | refine c_notV ?_ | refine c_if ?_
  | refine c_tup ?_ | refine c_lst ?_ | refine c_sl ?_ | refine c_noPart ?_ | refine c_part ?_ | refine c_bm ?_ | refine c_bm0 ?_ | refine c_m0 ?_ | refine c_m1 ?_ | refine c_chain ?_ | refine c_retN ?_ | refine c_gCons ?_ | refine c_gNil ?_ | refine c_gSub ?_
  | refine c_I0 ?_ | refine c_U ?_ | refine c_eq (by with_unfolding_all rfl) ?_ | refine c_ne (by with_unfolding_all rfl) ?_ | refine c_yes ?_ | refine c_forS ?_ | refine c_lcSi ?_ | refine c_forR1 ?_ | refine c_forR2 ?_ | refine c_forL ?_ | refine c_forT ?_ | refine c_lcR1 ?_ | refine c_lcLi ?_ | refine c_lcTi ?_ | refine c_forE ?_ | refine c_lcZi ?_ | refine c_xfv ?_ | refine c_mkv ?_ | refine c_mp ?_ | refine c_fld ?_ | refine c_sfld ?_ | refine c_make ?_ | refine c_ckw ?_ | refine c_sdput ?_ | refine c_dget ?_ | refine c_callS ?_ | refine c_xf ?_ | refine c_mko ?_ | refine c_mps ?_ | refine c_lcK ?_ | refine c_forK ?_ | refine c_dpop ?_ | refine c_dget2 ?_ | refine c_dget1 ?_ | refine c_forIt ?_ | refine c_listIt ?_ | refine c_break ?_ | refine c_cont ?_ | refine c_orT ?_ | refine c_andT ?_ | refine c_notT ?_ | refine iteT ?_ | refine iteF ?_ | refine if_nt ?_ | refine if_nf ?_
  | refine ⟨_, rfl, ?_⟩ | refine ⟨_, _, rfl, rfl, ?_⟩ | refine And.intro rfl ?_))
local macro_rules | `(tactic| walk_at "ss") => `(tactic| repeat (walk_at "s"))

namespace Toy
open PySem L2
open Evl hiding RetV RetL
open TL (tl)
def top (i : Nat) : Stmt := PySem.Challenge.pw_beatrows_k59_rows_with_other_names.main.body.getD i (.Pass ⟨0, 0, 0, 0⟩)
abbrev s_Twice_init : Stmt := (cBody (top 2)).getD 0 (.Pass ⟨0, 0, 0, 0⟩)
abbrev s_need_unlike : Stmt := top 4
abbrev s_named_row : Stmt := top 5
abbrev s_named_clock : Stmt := top 6
abbrev s_cell_at_l : Stmt := top 8
abbrev s_box_l : Stmt := top 9
abbrev s_take_l : Stmt := top 10
abbrev s_mixed_l : Stmt := top 12
abbrev s_names_l : Stmt := top 13
abbrev s_pairs_l : Stmt := top 14
abbrev s_answer_l : Stmt := top 15
abbrev s_due_l : Stmt := top 16
abbrev s_law : Stmt := top 17
/-- where the defs stand -/
structure Adr where
  f_Twice_init : Addr
  fd_Twice_init : FuncData
  f_need_unlike : Addr
  fd_need_unlike : FuncData
  f_named_row : Addr
  fd_named_row : FuncData
  f_named_clock : Addr
  fd_named_clock : FuncData
  f_cell_at_l : Addr
  fd_cell_at_l : FuncData
  f_box_l : Addr
  fd_box_l : FuncData
  f_take_l : Addr
  fd_take_l : FuncData
  f_mixed_l : Addr
  fd_mixed_l : FuncData
  f_names_l : Addr
  fd_names_l : FuncData
  f_pairs_l : Addr
  fd_pairs_l : FuncData
  f_answer_l : Addr
  fd_answer_l : FuncData
  f_due_l : Addr
  fd_due_l : FuncData
  f_law : Addr
  fd_law : FuncData
  c_BeatError : Addr
  c_Twice : Addr
structure Txt (K : PySem.W.Frag) (mg : Str → Option Value) (Z : Adr) : Prop where
  F_Twice_init : Fun K "__init__" "Twice.__init__" s_Twice_init Z.f_Twice_init Z.fd_Twice_init
  b_Twice_init : Binds K Z.fd_Twice_init ["self", "name"] []
  F_need_unlike : Fun K "need_unlike" "need_unlike" s_need_unlike Z.f_need_unlike Z.fd_need_unlike
  b_need_unlike : Binds K Z.fd_need_unlike ["names", "fresh"] []
  g_need_unlike : mg "need_unlike" = some (.ref Z.f_need_unlike)
  F_named_row : Fun K "named_row" "named_row" s_named_row Z.f_named_row Z.fd_named_row
  b_named_row : Binds K Z.fd_named_row ["row", "names"] []
  g_named_row : mg "named_row" = some (.ref Z.f_named_row)
  F_named_clock : Fun K "named_clock" "named_clock" s_named_clock Z.f_named_clock Z.fd_named_clock
  b_named_clock : Binds K Z.fd_named_clock ["clock", "names"] []
  g_named_clock : mg "named_clock" = some (.ref Z.f_named_clock)
  F_cell_at_l : Fun K "_law_cell_at" "_law_cell_at" s_cell_at_l Z.f_cell_at_l Z.fd_cell_at_l
  b_cell_at_l : Binds K Z.fd_cell_at_l ["_law_script", "_law_k"] []
  g_cell_at_l : mg "_law_cell_at" = some (.ref Z.f_cell_at_l)
  F_box_l : Fun K "_law_box" "_law_box" s_box_l Z.f_box_l Z.fd_box_l
  b_box_l : Binds K Z.fd_box_l ["_law_cell"] []
  g_box_l : mg "_law_box" = some (.ref Z.f_box_l)
  F_take_l : Fun K "_law_take" "_law_take" s_take_l Z.f_take_l Z.fd_take_l
  b_take_l : Binds K Z.fd_take_l ["_law_box_here", "_law_many"] []
  g_take_l : mg "_law_take" = some (.ref Z.f_take_l)
  F_mixed_l : Fun K "_law_mixed" "_law_mixed" s_mixed_l Z.f_mixed_l Z.fd_mixed_l
  b_mixed_l : Binds K Z.fd_mixed_l ["_law_box_here", "_law_some"] []
  g_mixed_l : mg "_law_mixed" = some (.ref Z.f_mixed_l)
  F_names_l : Fun K "_law_names" "_law_names" s_names_l Z.f_names_l Z.fd_names_l
  b_names_l : Binds K Z.fd_names_l ["_law_box_here", "_law_many"] []
  g_names_l : mg "_law_names" = some (.ref Z.f_names_l)
  F_pairs_l : Fun K "_law_pairs" "_law_pairs" s_pairs_l Z.f_pairs_l Z.fd_pairs_l
  b_pairs_l : Binds K Z.fd_pairs_l ["_law_box_here", "_law_names_here"] []
  g_pairs_l : mg "_law_pairs" = some (.ref Z.f_pairs_l)
  F_answer_l : Fun K "_law_answer" "_law_answer" s_answer_l Z.f_answer_l Z.fd_answer_l
  b_answer_l : Binds K Z.fd_answer_l ["_law_row", "_law_names_here"] []
  g_answer_l : mg "_law_answer" = some (.ref Z.f_answer_l)
  F_due_l : Fun K "_law_due" "_law_due" s_due_l Z.f_due_l Z.fd_due_l
  b_due_l : Binds K Z.fd_due_l ["_law_row", "_law_names_here"] []
  g_due_l : mg "_law_due" = some (.ref Z.f_due_l)
  F_law : Fun K "law" "law" s_law Z.f_law Z.fd_law
  b_law : Binds K Z.fd_law ["_law_script"] []
  g_law : mg "law" = some (.ref Z.f_law)
  m_BeatError : mg "BeatError" = some (.ref Z.c_BeatError)
  q_BeatError : baseB K Z.c_BeatError = true
  e_BeatError : PySem.W.excIn K Z.c_BeatError [.type "ValueError", .type "Exception", .type "BaseException", .type "object"] "ValueError.__new__" = true
  k_BeatError : PySem.W.keepIn K (.ref Z.c_BeatError) = true
  w_BeatError : icB K Z.c_BeatError = true
  m_Twice : mg "Twice" = some (.ref Z.c_Twice)
  x_Twice : exB K Z.c_Twice ["name"] = true
  i_Twice : PySem.W.findIn K (.ref Z.c_Twice) "__init__" = some (some (.ref Z.f_Twice_init))
  y_Twice : PySem.W.typeIn K (.ref Z.f_Twice_init) = some (.type "function")
  fact_exm : PySem.W.exmOne K (.ref Z.c_Twice) (.ref Z.c_Twice) = some true
  fact_kitTB : PySem.W.kitOne K (.ref Z.c_Twice) (.ref Z.c_BeatError) = some true
  n_dict : mg "dict" = none
  n_enumerate : mg "enumerate" = none
  n_isinstance : mg "isinstance" = none
  n_len : mg "len" = none
  n_list : mg "list" = none
  n_max : mg "max" = none
  n_min : mg "min" = none
  n_range : mg "range" = none
  n_repr : mg "repr" = none
  n_tuple : mg "tuple" = none
abbrev N_Twice_init : List Str := ["self", "name"]
theorem sc_Twice_init : FnScope N_Twice_init ["self", "name"] (defScope s_Twice_init) := ⟨rfl, rfl, rfl, by decide +kernel, rfl, by decide +kernel, by decide +kernel⟩
abbrev N_need_unlike : List Str := ["names", "fresh", "ahead", "name", "new"]
theorem sc_need_unlike : FnScope N_need_unlike ["names", "fresh"] (defScope s_need_unlike) := ⟨rfl, rfl, rfl, by decide +kernel, rfl, by decide +kernel, by decide +kernel⟩
abbrev N_named_row : List Str := ["row", "names", "found", "name", "thing"]
theorem sc_named_row : FnScope N_named_row ["row", "names"] (defScope s_named_row) := ⟨rfl, rfl, rfl, by decide +kernel, rfl, by decide +kernel, by decide +kernel⟩
abbrev N_named_clock : List Str := ["clock", "names", "name"]
theorem sc_named_clock : FnScope N_named_clock ["clock", "names"] (defScope s_named_clock) := ⟨rfl, rfl, rfl, by decide +kernel, rfl, by decide +kernel, by decide +kernel⟩
abbrev N_cell_at_l : List Str := ["_law_script", "_law_k"]
theorem sc_cell_at_l : FnScope N_cell_at_l ["_law_script", "_law_k"] (defScope s_cell_at_l) := ⟨rfl, rfl, rfl, by decide +kernel, rfl, by decide +kernel, by decide +kernel⟩
abbrev N_box_l : List Str := ["_law_cell"]
theorem sc_box_l : FnScope N_box_l ["_law_cell"] (defScope s_box_l) := ⟨rfl, rfl, rfl, by decide +kernel, rfl, by decide +kernel, by decide +kernel⟩
abbrev N_take_l : List Str := ["_law_box_here", "_law_many", "_law_number"]
theorem sc_take_l : FnScope N_take_l ["_law_box_here", "_law_many"] (defScope s_take_l) := ⟨rfl, rfl, rfl, by decide +kernel, rfl, by decide +kernel, by decide +kernel⟩
abbrev N_mixed_l : List Str := ["_law_box_here", "_law_some", "_law_left", "_law_found"]
theorem sc_mixed_l : FnScope N_mixed_l ["_law_box_here", "_law_some"] (defScope s_mixed_l) := ⟨rfl, rfl, rfl, by decide +kernel, rfl, by decide +kernel, by decide +kernel⟩
abbrev N_names_l : List Str := ["_law_box_here", "_law_many", "_law_letters", "_law_tail", "_law_k", "_law_shift", "_law_way", "_law_words", "_law_found", "_law_at", "_law_signs", "_law_name"]
theorem sc_names_l : FnScope N_names_l ["_law_box_here", "_law_many"] (defScope s_names_l) := ⟨rfl, rfl, rfl, by decide +kernel, rfl, by decide +kernel, by decide +kernel⟩
abbrev N_pairs_l : List Str := ["_law_box_here", "_law_names_here", "_law_way", "_law_found", "_law_mingled", "_law_fresh", "_law_k", "_law_name"]
theorem sc_pairs_l : FnScope N_pairs_l ["_law_box_here", "_law_names_here"] (defScope s_pairs_l) := ⟨rfl, rfl, rfl, by decide +kernel, rfl, by decide +kernel, by decide +kernel⟩
abbrev N_answer_l : List Str := ["_law_row", "_law_names_here", "_law_found", "e"]
theorem sc_answer_l : FnScope N_answer_l ["_law_row", "_law_names_here"] (defScope s_answer_l) := ⟨rfl, rfl, rfl, by decide +kernel, rfl, by decide +kernel, by decide +kernel⟩
abbrev N_due_l : List Str := ["_law_row", "_law_names_here", "_law_fresh", "_law_name", "_law_k"]
theorem sc_due_l : FnScope N_due_l ["_law_row", "_law_names_here"] (defScope s_due_l) := ⟨rfl, rfl, rfl, by decide +kernel, rfl, by decide +kernel, by decide +kernel⟩
abbrev N_law : List Str := ["_law_script", "_law_k", "_law_box_here", "_law_names_here", "_law_pairs_here", "_law_row", "_law_name", "_law_handed", "_law_clock", "_law_found"]
theorem sc_law : FnScope N_law ["_law_script"] (defScope s_law) := ⟨rfl, rfl, rfl, by decide +kernel, rfl, by decide +kernel, by decide +kernel⟩
section
variable {P : Program} {w : World} {K : PySem.W.Frag} {mg : Str → Option Value} {base : Heap} {Z : Adr}
theorem ok_Twice_init (T : Txt K mg Z) : FnOk P w K mg base CX0 1 Z.f_Twice_init Z.fd_Twice_init ["self", "name"] (sp_err1 Z.c_Twice "name") := by
  refine T.F_Twice_init.ok sc_Twice_init (fun vs H Q E h => ?_) (fun cdv AA outer s H vs Q E hr h => ?_)
  · obtain ⟨a, v0, rfl, _⟩ := h
    rfl
  · obtain ⟨a, v0, rfl, ha, k⟩ := h
    have TX := exB_ok T.x_Twice
    refine ⟨_, (pss_cons (ps_expr (pe_binit rfl T.m_BeatError (baseB_ok T.q_BeatError) (pa_cons (pv 0) (pa_cons pe_str pa_nil))))
      (pss_one (ps_ost (pv 0) (pv 1)))), ?_⟩
    exact err1_run TX.ox (TX.no _ (by decide +kernel)) ha k
/-! ### the law's cells and draws -/
def sp_cell_at_l (K : PySem.W.Frag) : Sp := fun vs H Q _ => ∃ (a : Addr) (ns : List Int) (k : Int), vs = [.ref a, .int k] ∧ SqL K H a (ns.map V.int) ∧ 0 ≤ k ∧ ∀ n, Q (.int n) H
def sp_box_l : Sp := fun vs H Q _ => ∃ (c : Int), vs = [.int c] ∧ ∀ p H2, H p = none → Ex H H2 → BoxAt H2 p → Q (.ref p) H2
def sp_take_l : Sp := fun vs H Q _ => ∃ (b : Addr) (m : Int), vs = [.ref b, .int m] ∧ BoxAt H b ∧ 0 < m ∧ m < 1073741824 ∧ ∀ d H2, 0 ≤ d → d < m → ExB b H H2 → BoxAt H2 b → Q (.int d) H2
theorem ok_cell_at_l (T : Txt K mg Z) : FnOk P w K mg base CX0 1 Z.f_cell_at_l Z.fd_cell_at_l ["_law_script", "_law_k"] (sp_cell_at_l K) := by
  refine T.F_cell_at_l.ok sc_cell_at_l (fun vs H Q E h => ?_) (fun cdv AA outer s H vs Q E hr h => ?_)
  · obtain ⟨a, ns, k, rfl, _⟩ := h
    rfl
  · obtain ⟨a, ns, k, rfl, hS, h0, q⟩ := h
    refine ⟨_, (pss_cons (ps_if (pt_cmpR op_lt (pv 1) (pe_callB call_len_seq (by rfl) T.n_len (by decide +kernel) (pa_cons (pv 0) pa_nil)) (nomark _)) (pss_one (ps_ret (pe_ix ix_list (pv 0) (pv 1) (fun _ _ => rfl)))) pss_nil)
      (pss_one (ps_ret (pe_op op_add (pe_op op_mul pe_int (pv 1)) pe_int)))), ?_⟩
    walk_at "ss"
    refine ⟨_, _, rfl, .inl hS, ?_⟩
    walk_at "ss"
    refine if_cs (fun hb => ?_) (fun hb => ?_)
    · walk_at "ss"
      obtain ⟨j, rfl⟩ := Int.eq_ofNat_of_zero_le h0
      have hl := of_decide_eq_true hb
      rw [List.length_map] at hl
      have hj : j < ns.length := by omega
      refine c_ixL hS (atI_nat (v := .int (ns[j]'hj)) ?_) (q _)
      rw [List.getElem?_map, List.getElem?_eq_getElem hj] <;> rfl
    · walk_at "ss"
      refine c_I (.inl ⟨by decide, by decide⟩) ?_
      walk_at "ss"
      exact q _
theorem ok_box_l (T : Txt K mg Z) : FnOk P w K mg base CX0 1 Z.f_box_l Z.fd_box_l ["_law_cell"] sp_box_l := by
  refine T.F_box_l.ok sc_box_l (fun vs H Q E h => ?_) (fun cdv AA outer s H vs Q E hr h => ?_)
  · obtain ⟨c, rfl, _⟩ := h
    rfl
  · obtain ⟨c, rfl, k⟩ := h
    refine ⟨_, (pss_cons (ps_if (pt_cmpR op_ge (pv 0) (pe_op op_pow pe_int pe_int) (nomark _)) (pss_one (ps_ret (pe_lst (pa_cons (pv 0) (pa_cons (pe_op op_mod (pv 0) pe_int) (pa_cons pe_int pa_nil)))))) pss_nil)
      (pss_one (ps_ret (pe_lst (pa_cons pe_int (pa_cons (pe_op op_mod (pv 0) pe_int) (pa_cons pe_int pa_nil))))))), ?_⟩
    walk_at "ss"
    refine c_I ⟨by decide, by decide, by decide⟩ ?_
    walk_at "ss"
    refine if_cs (fun hb => ?_) (fun _ => ?_)
    · have hc : (0 : Int) ≤ c := by
        have := of_decide_eq_true hb
        have h0 : (0 : Int) ≤ 10 ^ Int.toNat 18 := by decide
        omega
      walk_at "ss"
      refine c_I (by decide) ?_
      walk_at "ss"
      exact newL fun p H2 hp e2 h2 => k p H2 hp e2 ⟨_, _, _, hc, h2⟩
    · walk_at "ss"
      refine c_I (by decide) ?_
      walk_at "ss"
      exact newL fun p H2 hp e2 h2 => k p H2 hp e2 ⟨_, _, _, Int.le_refl _, h2⟩
theorem ix3_0 {a b c : V} : atI [a, b, c] 0 = some a := rfl
theorem ix3_1 {a b c : V} : atI [a, b, c] 1 = some b := rfl
theorem ix3_2 {a b c : V} : atI [a, b, c] 2 = some c := rfl
theorem emod_mul {a m : Int} (h : 0 < m) (hm : m < 1073741824 * 1073741824) {b : Int} : CMul (a % m) b := by
  have h1 := Int.emod_nonneg a (by omega : m ≠ 0)
  have h2 := Int.emod_lt_of_pos a h
  exact .inl ⟨by omega, by omega⟩
theorem ok_take_l (T : Txt K mg Z) : FnOk P w K mg base CX0 1 Z.f_take_l Z.fd_take_l ["_law_box_here", "_law_many"] sp_take_l := by
  refine T.F_take_l.ok sc_take_l (fun vs H Q E h => ?_) (fun cdv AA outer s H vs Q E hr h => ?_)
  · obtain ⟨b, m, rfl, _⟩ := h
    rfl
  · obtain ⟨b, m, rfl, ⟨x, y, z, hx, hB⟩, m0, m1, k⟩ := h
    refine ⟨_, (pss_cons (ps_if (pt_cmpR op_gt (pe_ix ix_list (pv 0) pe_int (fun _ _ => rfl)) pe_int (nomark _)) (pss_cons (ps_set (i := 2) sc_take_l.nd rfl (Or.inl rfl) (pe_op op_mod (pe_ix ix_list (pv 0) pe_int (fun _ _ => rfl)) (pv 1)))
      (pss_cons (ps_asg (pe_op op_fdiv (pe_ix ix_list (pv 0) pe_int (fun _ _ => rfl)) (pv 1)) (pg_sub (pv 0) pe_int set_list))
      (pss_one (ps_ret (pv 2))))) pss_nil)
      (pss_cons (ps_asg (pe_op op_add (pe_ix ix_list (pv 0) pe_int (fun _ _ => rfl)) pe_int) (pg_sub (pv 0) pe_int set_list))
      (pss_cons (ps_set (i := 2) sc_take_l.nd rfl (Or.inl rfl) (pe_op op_mod (pe_op op_add (pe_op op_add (pe_op op_mul (pe_ix ix_list (pv 0) pe_int (fun _ _ => rfl)) pe_int) (pe_op op_mul pe_int (pe_ix ix_list (pv 0) pe_int (fun _ _ => rfl)))) pe_int) pe_int))
      (pss_cons (ps_set (i := 2) sc_take_l.nd rfl (Or.inl rfl) (pe_op op_mod (pe_op op_add (pe_op op_add (pe_op op_mul (pv 2) (pv 2)) (pe_op op_mul pe_int (pe_ix ix_list (pv 0) pe_int (fun _ _ => rfl)))) pe_int) pe_int))
      (pss_one (ps_ret (pe_op op_mod (pe_op op_mod (pe_op op_mul (pv 2) (pv 2)) pe_int) (pv 1)))))))), ?_⟩
    walk_at "ss"
    refine c_ixL (SqL.of hB) ix3_0 ?_
    walk_at "ss"
    refine if_cs (fun hb => ?_) (fun hb => ?_)
    · walk_at "ss"
      refine c_ixL (SqL.of hB) ix3_0 ?_
      walk_at "ss"
      refine c_I m0 ?_
      walk_at "ss"
      refine c_ixL (SqL.of hB) ix3_0 ?_
      walk_at "ss"
      refine c_I ⟨m0, m1⟩ ?_
      walk_at "ss"
      refine c_setL hB rfl ?_
      walk_at "ss"
      refine k _ _ (Int.emod_nonneg _ (by omega)) (Int.emod_lt_of_pos _ m0) ExB.upd ⟨_, _, _, Int.ediv_nonneg hx (by omega), upd_same⟩
    · walk_at "ss"
      refine c_ixL (SqL.of hB) ix3_2 ?_
      walk_at "ss"
      refine c_setL hB rfl ?_
      have hB2 : (upd H b (.lst [.int x, .int y, .int (z + 1)])) b = some (.lst [.int x, .int y, .int (z + 1)]) := upd_same
      walk_at "ss"
      refine c_ixL (SqL.of hB2) ix3_1 ?_
      walk_at "ss"
      refine c_I (.inr ⟨by decide, by decide⟩) ?_
      walk_at "ss"
      refine c_ixL (SqL.of hB2) ix3_2 ?_
      walk_at "ss"
      refine c_I (.inl ⟨by decide, by decide⟩) ?_
      walk_at "ss"
      refine c_I (by decide) ?_
      walk_at "ss"
      refine c_I (emod_mul (by decide) (by decide)) ?_
      walk_at "ss"
      refine c_ixL (SqL.of hB2) ix3_2 ?_
      walk_at "ss"
      refine c_I (.inl ⟨by decide, by decide⟩) ?_
      walk_at "ss"
      refine c_I (by decide) ?_
      walk_at "ss"
      refine c_I (emod_mul (by decide) (by decide)) ?_
      walk_at "ss"
      refine c_I (by decide) ?_
      walk_at "ss"
      refine c_I m0 ?_
      exact k _ _ (Int.emod_nonneg _ (by omega)) (Int.emod_lt_of_pos _ m0) ExB.upd ⟨_, _, _, hx, upd_same⟩

theorem box_ne {H : Hp} {b a : Addr} {o : HO} (h : BoxAt H b) (ha : H a = some o) (n : ∀ x y z : Int, o ≠ .lst [.int x, .int y, .int z]) : a ≠ b := by
  obtain ⟨x, y, z, _, q⟩ := h
  exact ne_of ha q (n x y z)
theorem at4 {v0 v1 v2 v3 : V} {d : Int} (h0 : 0 ≤ d) (h1 : d < 4) : ∃ v, atI [v0, v1, v2, v3] d = some v ∧ (d = 0 ∧ v = v0 ∨ d = 1 ∧ v = v1 ∨ d = 2 ∧ v = v2 ∨ d = 3 ∧ v = v3) := by
  have : d = 0 ∨ d = 1 ∨ d = 2 ∨ d = 3 := by omega
  rcases this with rfl | rfl | rfl | rfl
  · exact ⟨v0, rfl, .inl ⟨rfl, rfl⟩⟩
  · exact ⟨v1, rfl, .inr (.inl ⟨rfl, rfl⟩)⟩
  · exact ⟨v2, rfl, .inr (.inr (.inl ⟨rfl, rfl⟩))⟩
  · exact ⟨v3, rfl, .inr (.inr (.inr ⟨rfl, rfl⟩))⟩
/-- an item of a list that is asked by a draw: it is one of them -/
theorem at_in {xs : List V} {d : Int} (h0 : 0 ≤ d) (h1 : d < (xs.length : Int)) : ∃ v, atI xs d = some v ∧ v ∈ xs := by
  obtain ⟨j, rfl⟩ := Int.eq_ofNat_of_zero_le h0
  have hj : j < xs.length := by omega
  exact ⟨xs[j], atI_nat (List.getElem?_eq_getElem hj), List.getElem_mem hj⟩

open TL (tl)
/-! ### things in another order; names -/
def strsL (ns : List Str) : HO := .lst (ns.map V.str)
theorem strs_nobox {ns : List Str} (x y z : Int) : HO.lst (ns.map V.str) ≠ .lst [.int x, .int y, .int z] := by
  intro h
  injection h with h
  cases ns with
  | nil => cases h
  | cons a l =>
    rw [List.map_cons] at h
    injection h with h _
    cases h
theorem nb_strs {b a : Addr} {H G : Hp} {ns : List Str} (hB : BoxAt H b) (h : H a = some (.lst (ns.map V.str))) (x : ExB b H G) : G a = some (.lst (ns.map V.str)) := x _ _ (box_ne hB h (fun x y z => strs_nobox x y z)) h
def sp_mixed_l : Sp := fun vs H Q _ => ∃ (b l : Addr) (ns : List Str), vs = [.ref b, .ref l] ∧ BoxAt H b ∧ H l = some (.lst (ns.map V.str)) ∧ ns.length ≤ 300 ∧ (∀ s ∈ ns, OkT s) ∧ ∀ (ms : List Str) p H2, ms.Perm ns → H p = none → ExB b H H2 → BoxAt H2 b → H2 p = some (.lst (ms.map V.str)) → Q (.ref p) H2
theorem ne_nil_false {K : PySem.W.Frag} {H : Hp} {Q : VK} {p q : Addr} {ns : List Str} (h : H p = some (.lst (ns.map V.str))) (h' : H q = some (.lst [])) (ho : ∀ s ∈ ns, OkT s) (k : Q (.bl (!decide (ns = []))) H) : rNeD K (.ref p) (.ref q) H Q := by
  refine c_neLs (SqL.of h) (SqL.of h') ?_ rfl ?_
  · rw [List.all_eq_true]
    intro x hx
    obtain ⟨s, hs, rfl⟩ := List.mem_map.mp hx
    exact okT_V (ho s hs)
  · cases ns with
    | nil => exact k
    | cons a l => exact k
theorem map_erase {α β : Type} (f : α → β) : ∀ (l : List α) (j : Nat), (l.eraseIdx j).map f = (l.map f).eraseIdx j
  | [], _ => rfl
  | _ :: _, 0 => rfl
  | a :: l, j + 1 => by
    show f a :: (l.eraseIdx j).map f = f a :: (l.map f).eraseIdx j
    rw [map_erase f l j]
theorem erase_perm {α : Type} : ∀ {l : List α} {j : Nat} (h : j < l.length), (l[j] :: l.eraseIdx j).Perm l
  | a :: l, 0, _ => List.Perm.refl _
  | a :: l, j + 1, h => by
    have hj : j < l.length := by rw [List.length_cons] at h; omega
    have ih := erase_perm (l := l) (j := j) hj
    exact (List.Perm.swap a l[j] _).trans (List.Perm.cons a ih)
theorem ok_mixed_l (T : Txt K mg Z) : FnOk P w K mg base CX0 2 Z.f_mixed_l Z.fd_mixed_l ["_law_box_here", "_law_some"] sp_mixed_l := by
  have G_take_l := ok_take_l (P := P) (w := w) (base := base) T
  refine T.F_mixed_l.ok sc_mixed_l (fun vs H Q E h => ?_) (fun cdv AA outer s H vs Q E hr h => ?_)
  · obtain ⟨b, l, ns, rfl, _⟩ := h
    rfl
  · obtain ⟨b, l, ns, rfl, hB, hl, hn, ho, k⟩ := h
    refine ⟨_, (pss_cons (ps_set (i := 2) sc_mixed_l.nd rfl (Or.inl rfl) (pe_callTy call_list_of (by rfl) T.n_list (by decide +kernel) (pa_cons (pv 1) pa_nil)))
      (pss_cons (ps_set (i := 3) sc_mixed_l.nd rfl (Or.inl rfl) (pe_lst pa_nil))
      (pss_cons (ps_while PassesOwn.never (pt_cmpR (op_neD hr.units) (pv 2) (pe_lst pa_nil) (nomark _)) (pss_one (ps_expr (pe_bm PySem.F.plainAttrs_list PySem.F.slot_list_append PySem.F.type_list_append mt_append (pv 3) (pa_cons (pe_bm PySem.F.plainAttrs_list PySem.F.slot_list_pop PySem.F.type_list_pop mt_popAt (pv 2) (pa_cons (pe_call G_take_l (hr.mono (by omega)) rfl T.g_take_l T.F_take_l.kp T.b_take_l .nil pass0 (pa_cons (pv 0) (pa_cons (pe_callB call_len_seq (by rfl) T.n_len (by decide +kernel) (pa_cons (pv 2) pa_nil)) pa_nil))) pa_nil)) pa_nil)))))
      (pss_one (ps_ret (pv 3)))))), ?_⟩
    walk_at "ss"
    refine ⟨_, _, rfl, .inl (SqL.of hl), fun lf hlf => ?_⟩
    have e1 : Ex H (upd H lf (.lst (ns.map V.str))) := Ex.new hlf
    have g1 : upd H lf (.lst (ns.map V.str)) lf = some (.lst (ns.map V.str)) := upd_same
    generalize upd H lf (.lst (ns.map V.str)) = H1 at e1 g1
    walk_at "ss"
    refine newL fun fd H2 hfd e2 g2 => ?_
    walk_at "ss"
    have hfdH : H fd = none := fresh_back e1 hfd
    have nfl : fd ≠ lf := (ne_of_none g1 hfd).symm
    have ob := (hB.up e1).some
    have nlb : lf ≠ b := by
      obtain ⟨o, ho⟩ := hB.some
      exact (ne_of_none ho hlf).symm
    have nfb : fd ≠ b := by
      obtain ⟨o, ho⟩ := ob
      exact (ne_of_none ho hfd).symm
    refine while_by (fun σ' G => σ' = [some (.ref b), some (.ref l), some (.ref lf), some (.ref fd)] ∧ ExB b H G ∧ BoxAt G b ∧ ∃ (fs ls : List Str), (fs ++ ls).Perm ns ∧ G fd = some (.lst (fs.map V.str)) ∧ G lf = some (.lst (ls.map V.str)))
      (fun σ' G => match G lf with | some (.lst xs) => xs.length | _ => 0) ⟨rfl, ExB.of (e1.trans e2), hB.up (e1.trans e2), [], ns, List.Perm.refl _, g2, e2 _ _ g1⟩ ?_ ?_
    · rintro σ' G ⟨rfl, xG, bG, fs, ls, hperm, gf, gl⟩
      have hlen : fs.length + ls.length = ns.length := by rw [← List.length_append]; exact hperm.length_eq
      walk_at "ss"
      refine newL fun q G1 hq f1 m1 => ?_
      refine ne_nil_false (f1 _ _ gl) m1 (fun s hs => ho s (hperm.mem_iff.mp (List.mem_append_right _ hs))) ?_
      walk_at "ss"
      cases ls with
      | nil =>
        refine if_ff (by rfl) ?_
        walk_at "ss"
        rw [List.append_nil] at hperm
        exact k fs fd G1 hperm hfdH (xG.trans (ExB.of f1)) (bG.up f1) (f1 _ _ gf)
      | cons a r =>
        refine if_tt (by rfl) ?_
        walk_at "ss"
        refine ⟨.inl ⟨rfl, _, SqL.of (f1 _ _ gf)⟩, ?_⟩
        walk_at "ss"
        refine ⟨.inl ⟨rfl, _, SqL.of (f1 _ _ gl)⟩, ?_⟩
        walk_at "ss"
        refine ⟨lf, _, rfl, .inl (SqL.of (f1 _ _ gl)), ?_⟩
        walk_at "ss"
        have hlr : ((a :: r).map V.str).length = r.length + 1 := by rw [List.length_map, List.length_cons]
        have hlen2 : fs.length + (r.length + 1) = ns.length := hlen
        refine ⟨b, _, rfl, bG.up f1, by rw [hlr]; omega, by rw [hlr]; omega, fun d G2 h0 h1 x2 b2 => ?_⟩
        rw [hlr] at h1
        obtain ⟨j, rfl⟩ := Int.eq_ofNat_of_zero_le h0
        have hj : j < (a :: r).length := by rw [List.length_cons]; omega
        have gl2 := x2 _ _ nlb (f1 _ _ gl)
        have gf2 := x2 _ _ nfb (f1 _ _ gf)
        refine ⟨lf, _, _, j, .str ((a :: r)[j]'hj), rfl, rfl, gl2, by omega, by omega, ?_, ?_, ?_⟩
        · rw [seqIndex_of (by omega) (by rw [hlr]; omega)]
          rfl
        · rw [List.getElem?_map, List.getElem?_eq_getElem hj] <;> rfl
        have gf3 : upd G2 lf (.lst (((a :: r).map V.str).eraseIdx j)) fd = some (.lst (fs.map V.str)) := by rw [upd_ne nfl]; exact gf2
        refine ⟨fd, _, _, rfl, rfl, gf3, Evl.sz_lt (by rw [List.length_map]; omega), ?_⟩
        have he : ((a :: r).map V.str).eraseIdx j = ((a :: r).eraseIdx j).map V.str := (map_erase V.str (a :: r) j).symm
        have gl4 : upd (upd G2 lf (.lst (((a :: r).map V.str).eraseIdx j))) fd (.lst (fs.map V.str ++ [.str ((a :: r)[j]'hj)])) lf = some (.lst (((a :: r).eraseIdx j).map V.str)) := by rw [upd_ne nfl.symm, upd_same, he]
        refine ⟨⟨rfl, exB_put (exB_put (xG.trans ((ExB.of f1).trans x2)) hlf) hfdH, box_put (box_put b2 nlb.symm) nfb.symm, fs ++ [(a :: r)[j]'hj], (a :: r).eraseIdx j, ?_, ?_, gl4⟩, ?_⟩
        · rw [List.append_assoc]
          exact (List.Perm.append_left fs (erase_perm hj)).trans hperm
        · rw [upd_same, List.map_append]
          rfl
        · rw [gl4, gl]
          show (((a :: r).eraseIdx j).map V.str).length < ((a :: r).map V.str).length
          rw [List.length_map, List.length_map, List.length_eraseIdx_of_lt hj, List.length_cons]
          omega
    · rintro σ' G Q Q' hq ⟨xa, h1, hz, h2⟩
      exact ⟨xa, h1, hz, fun p hp => let ⟨d, e, q1, q2, q3, q4, kk, ek, q⟩ := h2 p hp; ⟨d, e, q1, q2, q3, q4, kk, ek, hq _ _ q⟩⟩
/-! names -/
def sp_names_l : Sp := fun vs H Q _ => ∃ (b : Addr) (n : Nat), vs = [.ref b, .int (n : Int)] ∧ BoxAt H b ∧ 1 ≤ n ∧ n ≤ 30 ∧ ∀ (ns : List Str) p H2, ns.length = n → (∀ s ∈ ns, Tx 100 s) → H p = none → ExB b H H2 → BoxAt H2 b → H2 p = some (.lst (ns.map V.str)) → Q (.ref p) H2
theorem ok_empty : OkT "" := OkT.lit (by decide +kernel)
theorem len_empty : ("" : Str).length = 0 := by decide +kernel
theorem tx_letters : Tx 26 "abcdefghijklmnopqrstuvwxyz" := tx_lit (by decide +kernel)
theorem len_letters : ("abcdefghijklmnopqrstuvwxyz" : Str).length = 26 := by decide +kernel
theorem let_at {d : Int} (h0 : 0 ≤ d) (h1 : d < 26) : ∃ c, atI (tl "abcdefghijklmnopqrstuvwxyz") d = some c ∧ c < 1114112 := at_tl h0 (by rw [len_letters]; exact h1) tx_letters
theorem tx_words : ∀ s ∈ (["node", "in", "out", "before", "when", "hold", "like", "same", "call", "true", "mod", "beat", "desk"] : List Str), Tx 10 s := by
  have h : (["node", "in", "out", "before", "when", "hold", "like", "same", "call", "true", "mod", "beat", "desk"] : List Str).all (fun t => (tl t).all (fun c => decide (c < 1114112)) && decide (t.length ≤ 10)) = true := by decide +kernel
  rw [List.all_eq_true] at h
  exact fun s hs => tx_lit (h s hs)
theorem tx_q : Tx 1 "q" := tx_lit (by decide +kernel)
theorem tx_dot : Tx 1 "." := tx_lit (by decide +kernel)
theorem emod_at {a m : Int} (h : 0 < m) : 0 ≤ a % m ∧ a % m < m := ⟨Int.emod_nonneg _ (by omega), Int.emod_lt_of_pos _ h⟩
theorem ok_names_l (T : Txt K mg Z) : FnOk P w K mg base CX0 3 Z.f_names_l Z.fd_names_l ["_law_box_here", "_law_many"] sp_names_l := by
  have G_take_l := ok_take_l (P := P) (w := w) (base := base) T
  have G_mixed_l := ok_mixed_l (P := P) (w := w) (base := base) T
  refine T.F_names_l.ok sc_names_l (fun vs H Q E h => ?_) (fun cdv AA outer s H vs Q E hr h => ?_)
  · obtain ⟨b, n, rfl, _⟩ := h
    rfl
  · obtain ⟨b, n, rfl, hB, hn0, hn1, k⟩ := h
    refine ⟨_, (pss_cons (ps_set (i := 2) sc_names_l.nd rfl (Or.inr rfl) pe_str)
      (pss_cons (ps_set (i := 3) sc_names_l.nd rfl (Or.inr rfl) (pe_op op_add_str pe_str (pe_join pe_str (pe_lc (own := [("_law_k", 4)]) (g := (gName 4)) (tt := tYes) (te := (tOp rIxS (tVar 2) (tCall sp_take_l [] E0 (tCons (tVar 0) (tCons (tC (.int 26)) tNil))))) rfl sc_names_l.nd (pi_range1 (by rfl) T.n_range (pa_cons pe_int pa_nil)) (blkOk_by (own := [("_law_k", 4)]) (N := N_names_l) (sc := defScope s_names_l) (by decide +kernel)) (fun _ _ _ _ _ => (pg_name (i := 4) sc_names_l.nd rfl (Or.inl rfl))) (fun _ _ _ _ _ => pts_nil) (fun _ _ _ _ _ => (pe_ix ix_str (pv 2) (pe_call G_take_l (hr.mono (by omega)) rfl T.g_take_l T.F_take_l.kp T.b_take_l .nil pass0 (pa_cons (pv 0) (pa_cons pe_int pa_nil))) (fun _ _ => rfl)))))))
      (pss_cons (ps_set (i := 5) sc_names_l.nd rfl (Or.inr rfl) (pe_call G_take_l (hr.mono (by omega)) rfl T.g_take_l T.F_take_l.kp T.b_take_l .nil pass0 (pa_cons (pv 0) (pa_cons pe_int pa_nil))))
      (pss_cons (ps_set (i := 6) sc_names_l.nd rfl (Or.inl rfl) (pe_call G_take_l (hr.mono (by omega)) rfl T.g_take_l T.F_take_l.kp T.b_take_l .nil pass0 (pa_cons (pv 0) (pa_cons pe_int pa_nil))))
      (Evl.pss_cut (ps_if (PW.pt (pw_and (pt_cmpR op_eq (pv 6) pe_int (nomark _)) (pw_and1 (pt_cmpR op_le (pv 1) pe_int (nomark _))))) (pss_cons (ps_set (i := 7) sc_names_l.nd rfl (Or.inr rfl) (pe_lst (pa_cons pe_str (pa_cons pe_str (pa_cons pe_str (pa_cons pe_str (pa_cons pe_str (pa_cons pe_str (pa_cons pe_str (pa_cons pe_str (pa_cons pe_str (pa_cons pe_str pa_nil))))))))))))
      (pss_cons (ps_set (i := 7) sc_names_l.nd rfl (Or.inr rfl) (pe_op op_cat (pv 7) (pe_lst (pa_cons pe_str (pa_cons pe_str (pa_cons pe_str pa_nil))))))
      (pss_one (ps_set (i := 8) sc_names_l.nd rfl (Or.inr rfl) (pe_lc (own := [("_law_k", 4)]) (g := (gName 4)) (tt := tYes) (te := (tOp (fun x y H Q => ∃ i j, x = .str i ∧ y = .str j ∧ i.length + j.length ≤ sizeLine ∧ Q (.str (i ++ j)) H) (tOp (rIxL K) (tVar 7) (tOp (rI (fun _ j => 0 < j) fun i j => .int (i % j)) (tOp (rI0 fun i j => .int (i + j)) (tVar 5) (tVar 4)) (tC (.int 13)))) (tOp rRepA (tC (.str "q")) (tOp (rI0 fun i j => .int (i + j)) (tC (.int 1)) (tOp (rI CDiv fun i j => .int (i / j)) (tVar 4) (tC (.int 13))))))) rfl sc_names_l.nd (pi_range1 (by rfl) T.n_range (pa_cons (pv 1) pa_nil)) (blkOk_by (own := [("_law_k", 4)]) (N := N_names_l) (sc := defScope s_names_l) (by decide +kernel)) (fun _ _ _ _ _ => (pg_name (i := 4) sc_names_l.nd rfl (Or.inl rfl))) (fun _ _ _ _ _ => pts_nil) (fun _ _ _ _ _ => (pe_op op_add_str (pe_ix ix_list (pv 7) (pe_op op_mod (pe_op op_add (pv 5) (pv 4)) pe_int) (fun _ _ => rfl)) (pe_op op_rep_strA pe_str (pe_op op_add pe_int (pe_op op_fdiv (pv 4) pe_int)))))))))) (pss_one (ps_if (PW.pt (pw_and (pt_cmpR op_eq (pv 6) pe_int (nomark _)) (pw_and1 (pt_cmpR op_le (pv 1) pe_int (nomark _))))) (pss_cons (ps_set (i := 9) sc_names_l.nd rfl (Or.inr rfl) (pe_call G_take_l (hr.mono (by omega)) rfl T.g_take_l T.F_take_l.kp T.b_take_l .nil pass0 (pa_cons (pv 0) (pa_cons pe_int pa_nil))))
      (pss_cons (ps_set (i := 10) sc_names_l.nd rfl (Or.inr rfl) (pe_lc (own := [("_law_k", 4)]) (g := (gName 4)) (tt := tYes) (te := (tOp rIxS (tVar 2) (tOp (rI (fun _ j => 0 < j) fun i j => .int (i % j)) (tOp (rI0 fun i j => .int (i + j)) (tVar 5) (tOp (rI CMul fun i j => .int (i * j)) (tC (.int 5)) (tVar 4))) (tC (.int 26))))) rfl sc_names_l.nd (pi_range1 (by rfl) T.n_range (pa_cons (pv 1) pa_nil)) (blkOk_by (own := [("_law_k", 4)]) (N := N_names_l) (sc := defScope s_names_l) (by decide +kernel)) (fun _ _ _ _ _ => (pg_name (i := 4) sc_names_l.nd rfl (Or.inl rfl))) (fun _ _ _ _ _ => pts_nil) (fun _ _ _ _ _ => (pe_ix ix_str (pv 2) (pe_op op_mod (pe_op op_add (pv 5) (pe_op op_mul pe_int (pv 4))) pe_int) (fun _ _ => rfl)))))
      (pss_one (ps_set (i := 8) sc_names_l.nd rfl (Or.inr rfl) (pe_lc (own := [("_law_k", 4)]) (g := (gName 4)) (tt := tYes) (te := (tOp (fun x y H Q => ∃ i j, x = .str i ∧ y = .str j ∧ i.length + j.length ≤ sizeLine ∧ Q (.str (i ++ j)) H) (tOp (fun x y H Q => ∃ i j, x = .str i ∧ y = .str j ∧ i.length + j.length ≤ sizeLine ∧ Q (.str (i ++ j)) H) (tOp (fun x y H Q => ∃ i j, x = .str i ∧ y = .str j ∧ i.length + j.length ≤ sizeLine ∧ Q (.str (i ++ j)) H) (tSl rSlS (tVar 3) tNoPart (tPart (tVar 9))) (tOp (rIxL K) (tVar 10) (tVar 4))) (tSl rSlS (tVar 3) (tPart (tVar 9)) (tPart (tC (.int 5))))) (tOp rRepA (tC (.str "q")) (tOp (rI CDiv fun i j => .int (i / j)) (tVar 4) (tC (.int 26)))))) rfl sc_names_l.nd (pi_range1 (by rfl) T.n_range (pa_cons (pv 1) pa_nil)) (blkOk_by (own := [("_law_k", 4)]) (N := N_names_l) (sc := defScope s_names_l) (by decide +kernel)) (fun _ _ _ _ _ => (pg_name (i := 4) sc_names_l.nd rfl (Or.inl rfl))) (fun _ _ _ _ _ => pts_nil) (fun _ _ _ _ _ => (pe_op op_add_str (pe_op op_add_str (pe_op op_add_str (pe_slice sl_str (pv 3) po_none (po_some (pv 9))) (pe_ix ix_list (pv 10) (pv 4) (fun _ _ => rfl))) (pe_slice sl_str (pv 3) (po_some (pv 9)) (po_some pe_int))) (pe_op op_rep_strA pe_str (pe_op op_fdiv (pv 4) pe_int))))))))) (pss_one (ps_set (i := 8) sc_names_l.nd rfl (Or.inr rfl) (pe_lc (own := [("_law_k", 4)]) (g := (gName 4)) (tt := tYes) (te := (tOp (fun x y H Q => ∃ i j, x = .str i ∧ y = .str j ∧ i.length + j.length ≤ sizeLine ∧ Q (.str (i ++ j)) H) (tOp rIxS (tVar 2) (tOp (rI (fun _ j => 0 < j) fun i j => .int (i % j)) (tOp (rI0 fun i j => .int (i + j)) (tVar 5) (tOp (rI CDiv fun i j => .int (i / j)) (tVar 4) (tC (.int 8)))) (tC (.int 26)))) (tSl rSlS (tVar 3) tNoPart (tPart (tOp (rI (fun _ j => 0 < j) fun i j => .int (i % j)) (tVar 4) (tC (.int 8))))))) rfl sc_names_l.nd (pi_range1 (by rfl) T.n_range (pa_cons (pv 1) pa_nil)) (blkOk_by (own := [("_law_k", 4)]) (N := N_names_l) (sc := defScope s_names_l) (by decide +kernel)) (fun _ _ _ _ _ => (pg_name (i := 4) sc_names_l.nd rfl (Or.inl rfl))) (fun _ _ _ _ _ => pts_nil) (fun _ _ _ _ _ => (pe_op op_add_str (pe_ix ix_str (pv 2) (pe_op op_mod (pe_op op_add (pv 5) (pe_op op_fdiv (pv 4) pe_int)) pe_int) (fun _ _ => rfl)) (pe_slice sl_str (pv 3) po_none (po_some (pe_op op_mod (pv 4) pe_int)))))))))))
      (Evl.pss_cut (ps_if (pt_cmpR op_eq (pe_call G_take_l (hr.mono (by omega)) rfl T.g_take_l T.F_take_l.kp T.b_take_l .nil pass0 (pa_cons (pv 0) (pa_cons pe_int pa_nil))) pe_int (nomark _)) (pss_one (ps_set (i := 8) sc_names_l.nd rfl (Or.inr rfl) (pe_lc (own := [("_law_name", 11)]) (g := (gName 11)) (tt := tYes) (te := (tOp (fun x y H Q => ∃ i j, x = .str i ∧ y = .str j ∧ i.length + j.length ≤ sizeLine ∧ Q (.str (i ++ j)) H) (tOp (fun x y H Q => ∃ i j, x = .str i ∧ y = .str j ∧ i.length + j.length ≤ sizeLine ∧ Q (.str (i ++ j)) H) (tVar 11) (tC (.str "."))) (tOp (rIxL K) (tVar 8) (tC (.int 0))))) rfl sc_names_l.nd (pi_list (pv 8)) (blkOk_by (own := [("_law_name", 11)]) (N := N_names_l) (sc := defScope s_names_l) (by decide +kernel)) (fun _ _ _ _ _ => (pg_name (i := 11) sc_names_l.nd rfl (Or.inl rfl))) (fun _ _ _ _ _ => pts_nil) (fun _ _ _ _ _ => (pe_op op_add_str (pe_op op_add_str (pv 11) pe_str) (pe_ix ix_list (pv 8) pe_int (fun _ _ => rfl))))))) pss_nil)
      (pss_one (ps_ret (pe_call G_mixed_l (hr.mono (by omega)) rfl T.g_mixed_l T.F_mixed_l.kp T.b_mixed_l .nil pass0 (pa_cons (pv 0) (pa_cons (pv 8) pa_nil))))))))))), ?_⟩
    walk_at "ss"
    refine ⟨⟨_, rfl⟩, ?_⟩
    walk_at "ss"
    refine ⟨by decide, by decide, ?_⟩
    refine lcRB (b := b) (fun y => ∃ s : Str, y = .str s ∧ OkT s ∧ s.length ≤ 1) (by decide) hB (fun i hi H2 hB2 x2 R N hR => ?_) (fun ys p H2 hl hg hp x2 hB2 g2 => ?_)
    · walk_at "ss"
      refine ⟨b, 26, rfl, hB2, by decide, by decide, fun d2 H3 d20 d21 x3 hB3 => ?_⟩
      obtain ⟨c, hc, hc1⟩ := let_at d20 d21
      refine c_ixS (by decide +kernel) hc ?_
      exact hR _ _ ⟨_, rfl, (tx_sign hc1).1, Nat.le_refl _⟩ hB3 x3
    obtain ⟨ss, rfl, hss⟩ := strs_of hg
    rw [List.length_map] at hl
    have hj := join_ok (sep := "") ok_empty (m := 1) hss
    have hsum := sum_len fun s hs => (hss s hs).2
    have hl6 : ss.length = 6 := hl
    rw [len_empty] at hj
    walk_at "ss"
    refine ⟨_, _, ss, rfl, rfl, .inl (SqL.of g2), by rw [len_empty]; omega, ?_⟩
    walk_at "ss"
    have hT : Tx 7 ("q" ++ Txt.join "" ss) := (tx_q.app (n := 6) ⟨hj.1, by omega⟩).mono (by decide)
    refine ⟨Evl.sz_of (by rw [← add_len]; have := hT.2; omega), ?_⟩
    generalize ("q" ++ Txt.join "" ss : Str) = tail at hT
    walk_at "ss"
    refine ⟨b, 26, rfl, hB2, by decide, by decide, fun sh H3 sh0 sh1 x3 hB3 => ?_⟩
    walk_at "ss"
    refine ⟨b, 3, rfl, hB3, by decide, by decide, fun wy H4 wy0 wy1 x4 hB4 => ?_⟩
    have X4 := x2.trans (x3.trans x4)
    walk_at "ss"
    refine c_cut (M := fun σ' G => ∃ v2 v3 v4 v5 v6 v7 v9 v10 v11 fl, σ' = [some (.ref b), some (.int (n : Int)), v2, v3, v4, v5, v6, v7, some (.ref fl), v9, v10, v11] ∧ ExB b H G ∧ BoxAt G b ∧ ∃ ns : List Str, ns.length = n ∧ (∀ s ∈ ns, Tx 40 s) ∧ G fl = some (.lst (ns.map V.str))) ?_ ?_
    · walk_at "ss"
      refine if_cs (fun e2 => ?w2) (fun e2 => ?wn)
      case w2 =>
       walk_at "ss"
       refine if_cs (fun e3 => ?A) (fun e3 => ?C)
       case A =>
        walk_at "ss"
        refine newL fun w1 H5 hw1 e5 g5 => ?_
        walk_at "ss"
        refine newL fun w2 H6 hw2 e6 g6 => ?_
        refine c_cat (e6 _ _ g5) g6 (fun w3 H7 hw3 e7 g7 => ?_)
        have e47 : Ex H4 H7 := e5.trans (e6.trans e7)
        have g7' : H7 w3 = some (.lst ((["node", "in", "out", "before", "when", "hold", "like", "same", "call", "true", "mod", "beat", "desk"] : List Str).map V.str)) := g7
        walk_at "ss"
        refine ⟨by omega, by omega, ?_⟩
        refine lcRB (b := b) (fun y => ∃ s : Str, y = .str s ∧ Tx 40 s) (show n ≤ 1000 by omega) (hB4.up e47) (fun i hi G8 bG8 xG8 R N hR => ?_) (fun ys8 p8 G8 hl8 hg8 hp8 x8 hB8 g8 => ?_)
        · walk_at "ss"
          refine c_I (by decide) ?_
          walk_at "ss"
          have gw := nb_strs (hB4.up e47) g7' xG8
          obtain ⟨s1, hs1, hm1⟩ := at_str (ns := ["node", "in", "out", "before", "when", "hold", "like", "same", "call", "true", "mod", "beat", "desk"]) (d := (sh + (i : Int)) % 13) (emod_at (by decide)).1 (emod_at (by decide)).2
          refine c_ixL (SqL.of gw) hs1 ?_
          walk_at "ss"
          refine c_I ⟨by decide, by decide⟩ ?_
          walk_at "ss"
          refine ⟨"q", _, rfl, rfl, by omega, by omega, by decide +kernel, by decide +kernel, ?_⟩
          walk_at "ss"
          have hs := (tx_words s1 hm1).app (tx_q.rep (Int.toNat (1 + (i : Int) / 13)))
          have hlen : Int.toNat (1 + (i : Int) / 13) * 1 ≤ 30 := by omega
          refine ⟨Evl.sz_of (by rw [← add_len]; have := hs.2; omega), ?_⟩
          exact hR _ _ ⟨_, rfl, hs.mono (by omega)⟩ bG8 (ExB.refl _ _)
        obtain ⟨ss2, rfl, hss2⟩ := strs_of hg8
        rw [List.length_map] at hl8
        have hl9 : ss2.length = n := hl8
        walk_at "ss"
        exact ⟨_, _, _, _, _, _, _, _, _, p8, rfl, X4.trans ((ExB.of e47).trans x8), hB8, ss2, hl9, hss2, g8⟩
       case C =>
        have hw : wy = 2 := V.int.inj (of_decide_eq_true e2)
        subst hw
        walk_at "ss"
        refine if_ff (by decide) ?_
        walk_at "ss"
        refine ⟨by omega, by omega, ?_⟩
        refine lcRB (b := b) (fun y => ∃ s : Str, y = .str s ∧ Tx 40 s) (show n ≤ 1000 by omega) hB4 (fun i hi G8 bG8 xG8 R N hR => ?_) (fun ys8 p8 G8 hl8 hg8 hp8 x8 hB8 g8 => ?_)
        · walk_at "ss"
          refine c_I ⟨by decide, by decide⟩ ?_
          walk_at "ss"
          refine c_I (by decide) ?_
          walk_at "ss"
          obtain ⟨c, hc, hc1⟩ := let_at (emod_at (a := sh + (i : Int) / 8) (m := 26) (by decide)).1 (emod_at (by decide)).2
          refine c_ixS (by decide +kernel) hc ?_
          walk_at "ss"
          refine c_I (by decide) ?_
          walk_at "ss"
          refine c_slS (by have := hT.2; omega) ?_
          walk_at "ss"
          have hs := (tx_sign hc1).app (hT.cut none (some ((i : Int) % 8)))
          refine ⟨Evl.sz_of (by rw [← add_len]; have := hs.2; omega), ?_⟩
          exact hR _ _ ⟨_, rfl, hs.mono (by decide)⟩ bG8 (ExB.refl _ _)
        obtain ⟨ss2, rfl, hss2⟩ := strs_of hg8
        rw [List.length_map] at hl8
        have hl9 : ss2.length = n := hl8
        walk_at "ss"
        exact ⟨_, _, _, _, _, _, _, _, _, p8, rfl, X4.trans x8, hB8, ss2, hl9, hss2, g8⟩
      case wn =>
       walk_at "ss"
       refine if_cs (fun e3 => ?B) (fun e3 => ?C)
       case B =>
        walk_at "ss"
        refine if_tt (decide_eq_true (show (n : Int) ≤ 52 by omega)) ?_
        walk_at "ss"
        refine ⟨b, 6, rfl, hB4, by decide, by decide, fun at_ H5 at0 at1 x5 hB5 => ?_⟩
        walk_at "ss"
        refine ⟨by omega, by omega, ?_⟩
        refine lcRB (b := b) (fun y => ∃ s : Str, y = .str s ∧ Tx 1 s) (show n ≤ 1000 by omega) hB5 (fun i hi G8 bG8 xG8 R N hR => ?_) (fun ys7 p7 H7 hl7 hg7 hp7 x7 hB7 g7 => ?_)
        · walk_at "ss"
          refine c_I (.inl ⟨by decide, by decide⟩) ?_
          walk_at "ss"
          refine c_I (by decide) ?_
          walk_at "ss"
          obtain ⟨c, hc, hc1⟩ := let_at (emod_at (a := sh + 5 * (i : Int)) (m := 26) (by decide)).1 (emod_at (by decide)).2
          refine c_ixS (by decide +kernel) hc ?_
          exact hR _ _ ⟨_, rfl, tx_sign hc1⟩ bG8 (ExB.refl _ _)
        obtain ⟨ss1, rfl, hss1⟩ := strs_of hg7
        rw [List.length_map] at hl7
        have hl7' : ss1.length = n := hl7
        walk_at "ss"
        refine ⟨by omega, by omega, ?_⟩
        refine lcRB (b := b) (fun y => ∃ s : Str, y = .str s ∧ Tx 40 s) (show n ≤ 1000 by omega) hB7 (fun i hi G8 bG8 xG8 R N hR => ?_) (fun ys8 p8 G8 hl8 hg8 hp8 x8 hB8 g8 => ?_)
        · walk_at "ss"
          refine c_slS (by have := hT.2; omega) ?_
          walk_at "ss"
          have gw := nb_strs hB7 g7 xG8
          have hin : i < n := hi
          obtain ⟨s1, hs1, hm1⟩ := at_str (ns := ss1) (d := (i : Int)) (by omega) (by omega)
          refine c_ixL (SqL.of gw) hs1 ?_
          walk_at "ss"
          have hs := (hT.cut none (some at_)).app (hss1 s1 hm1)
          refine ⟨Evl.sz_of (by rw [← add_len]; have := hs.2; omega), ?_⟩
          walk_at "ss"
          refine c_slS (by have := hT.2; omega) ?_
          walk_at "ss"
          have hs2 := hs.app (hT.cut (some at_) (some 5))
          refine ⟨Evl.sz_of (by rw [← add_len]; have := hs2.2; omega), ?_⟩
          walk_at "ss"
          refine c_I ⟨by decide, by decide⟩ ?_
          walk_at "ss"
          refine ⟨"q", _, rfl, rfl, by omega, by omega, by decide +kernel, by decide +kernel, ?_⟩
          walk_at "ss"
          have hs3 := hs2.app (tx_q.rep (Int.toNat ((i : Int) / 26)))
          have hlen : Int.toNat ((i : Int) / 26) * 1 ≤ 10 := by omega
          refine ⟨Evl.sz_of (by rw [← add_len]; have := hs3.2; omega), ?_⟩
          exact hR _ _ ⟨_, rfl, hs3.mono (by omega)⟩ bG8 (ExB.refl _ _)
        obtain ⟨ss2, rfl, hss2⟩ := strs_of hg8
        rw [List.length_map] at hl8
        have hl9 : ss2.length = n := hl8
        walk_at "ss"
        exact ⟨_, _, _, _, _, _, _, _, _, p8, rfl, X4.trans (x5.trans (x7.trans x8)), hB8, ss2, hl9, hss2, g8⟩
       case C =>
        walk_at "ss"
        refine ⟨by omega, by omega, ?_⟩
        refine lcRB (b := b) (fun y => ∃ s : Str, y = .str s ∧ Tx 40 s) (show n ≤ 1000 by omega) hB4 (fun i hi G8 bG8 xG8 R N hR => ?_) (fun ys8 p8 G8 hl8 hg8 hp8 x8 hB8 g8 => ?_)
        · walk_at "ss"
          refine c_I ⟨by decide, by decide⟩ ?_
          walk_at "ss"
          refine c_I (by decide) ?_
          walk_at "ss"
          obtain ⟨c, hc, hc1⟩ := let_at (emod_at (a := sh + (i : Int) / 8) (m := 26) (by decide)).1 (emod_at (by decide)).2
          refine c_ixS (by decide +kernel) hc ?_
          walk_at "ss"
          refine c_I (by decide) ?_
          walk_at "ss"
          refine c_slS (by have := hT.2; omega) ?_
          walk_at "ss"
          have hs := (tx_sign hc1).app (hT.cut none (some ((i : Int) % 8)))
          refine ⟨Evl.sz_of (by rw [← add_len]; have := hs.2; omega), ?_⟩
          exact hR _ _ ⟨_, rfl, hs.mono (by decide)⟩ bG8 (ExB.refl _ _)
        obtain ⟨ss2, rfl, hss2⟩ := strs_of hg8
        rw [List.length_map] at hl8
        have hl9 : ss2.length = n := hl8
        walk_at "ss"
        exact ⟨_, _, _, _, _, _, _, _, _, p8, rfl, X4.trans x8, hB8, ss2, hl9, hss2, g8⟩
    · rintro σ' G ⟨v2, v3, v4, v5, v6, v7, v9, v10, v11, fl, rfl, X5, hB5, ns, hns, htx, g5⟩
      walk_at "ss"
      refine c_cut (M := fun σ' G => ∃ v2 v3 v4 v5 v6 v7 v9 v10 v11 fl, σ' = [some (.ref b), some (.int (n : Int)), v2, v3, v4, v5, v6, v7, some (.ref fl), v9, v10, v11] ∧ ExB b H G ∧ BoxAt G b ∧ ∃ ns : List Str, ns.length = n ∧ (∀ s ∈ ns, Tx 100 s) ∧ G fl = some (.lst (ns.map V.str))) ?_ ?_
      · walk_at "ss"
        refine ⟨b, 4, rfl, hB5, by decide, by decide, fun d6 H6 h60 h61 x6 hB6 => ?_⟩
        have g6 := nb_strs hB5 g5 x6
        walk_at "ss"
        refine if_cs (fun _ => ?_) (fun _ => ?_)
        · walk_at "ss"
          have h0n : 0 < ns.length := by omega
          refine ⟨⟨_, SqL.of g6⟩, lcLv (fun x => match x with | .str s => some (.str ((s ++ ".") ++ ns[0])) | _ => none) (SqL.of g6) (by rw [List.length_map]; omega) (fun x hx G8 e8 R hR => ?_) ?_⟩
          · obtain ⟨s1, hs1, rfl⟩ := List.mem_map.mp hx
            have hs := (htx s1 hs1).app tx_dot
            have hs2 := hs.app (htx _ (List.getElem_mem h0n))
            walk_at "ss"
            refine ⟨Evl.sz_of (by rw [← add_len]; have := hs.2; omega), ?_⟩
            walk_at "ss"
            refine c_ixL (SqL.of (e8 _ _ g6)) (v := .str ns[0]) (atI_nat (by rw [List.getElem?_map, List.getElem?_eq_getElem h0n] <;> rfl)) ?_
            refine ⟨_, _, rfl, rfl, Evl.sz_of (by rw [← add_len]; have := hs2.2; omega), ?_⟩
            exact hR _ (Ex.refl _)
          intro p8 G8 hp8 e8 g8
          walk_at "ss"
          refine ⟨_, _, _, _, _, _, _, _, _, p8, rfl, X5.trans (x6.trans (ExB.of e8)), hB6.up e8, ns.map fun s => (s ++ ".") ++ ns[0], by rw [List.length_map]; exact hns, fun s hs => ?_, ?_⟩
          · obtain ⟨s1, hs1, rfl⟩ := List.mem_map.mp hs
            exact (((htx s1 hs1).app tx_dot).app (htx _ (List.getElem_mem h0n))).mono (by decide)
          · rw [g8, List.filterMap_map, List.map_map]
            congr 2
            exact fm_some (F := fun s => V.str ((s ++ ".") ++ ns[0])) ns
        · walk_at "ss"
          exact ⟨_, _, _, _, _, _, _, _, _, fl, rfl, X5.trans x6, hB6, ns, hns, fun s hs => (htx s hs).mono (by decide), g6⟩
      · rintro σ' G7 ⟨v2, v3, v4, v5, v6, v7, v9, v10, v11, fl, rfl, X7, hB7, ns, hns, htx, g7⟩
        walk_at "ss"
        refine ⟨b, fl, ns, rfl, hB7, g7, by omega, fun s hs => (htx s hs).1, fun ms p G8 hperm hp x8 b8 g8 => ?_⟩
        exact k ms p G8 (hperm.length_eq.trans hns) (fun s hs => htx s (hperm.mem_iff.mp hs)) (freshB X7 hB7 hp) (X7.trans x8) b8 g8

open TL (tl)
/-! ### pairs of names -/
/-- names and other names for them -/
def NmOk (kv : List (Key × V)) : Prop := (kv.map (·.1)).Nodup ∧ ∀ p ∈ kv, ∃ s s', p = (.inr s, .str s') ∧ Tx 100 s ∧ Tx 100 s'
theorem NmOk.put {kv : List (Key × V)} (h : NmOk kv) {s s' : Str} (hs : Tx 100 s) (hs' : Tx 100 s') : NmOk (putK kv (.inr s) (.str s')) := by
  refine ⟨putK_nodup h.1, fun p hp => ?_⟩
  unfold putK at hp
  split at hp
  · obtain ⟨q, hq, rfl⟩ := List.mem_map.mp hp
    split
    · rename_i e
      exact ⟨s, s', by rw [e], hs, hs'⟩
    · exact h.2 q hq
  · rcases List.mem_append.mp hp with hp | hp
    · exact h.2 p hp
    · have : p = (.inr s, .str s') := by simpa using hp
      exact ⟨s, s', this, hs, hs'⟩
theorem NmOk.nil : NmOk [] := ⟨List.nodup_nil, fun p hp => by cases hp⟩
def PJ (b fd l ml fl : Addr) (ns ms fr : List Str) (H : Hp) (n : Nat) (G : Hp) : Prop := ExB b H G ∧ BoxAt G b ∧ G l = some (.lst (ns.map V.str)) ∧ G ml = some (.lst (ms.map V.str)) ∧ G fl = some (.lst (fr.map V.str)) ∧ ∃ kv, G fd = some (.dK kv) ∧ NmOk kv ∧ kv.length ≤ n
section
variable {b fd l ml fl : Addr} {ns ms fr : List Str} {H G G2 : Hp} {n : Nat}
theorem PJ.up (h : PJ b fd l ml fl ns ms fr H n G) (e : Ex G G2) : PJ b fd l ml fl ns ms fr H n G2 := by
  obtain ⟨h1, h2, h3, h4, h5, kv, h6, h7, h8⟩ := h
  exact ⟨h1.trans (ExB.of e), h2.up e, e _ _ h3, e _ _ h4, e _ _ h5, kv, e _ _ h6, h7, h8⟩
theorem PJ.mono (h : PJ b fd l ml fl ns ms fr H n G) {m : Nat} (hm : n ≤ m) : PJ b fd l ml fl ns ms fr H m G := by
  obtain ⟨h1, h2, h3, h4, h5, kv, h6, h7, h8⟩ := h
  exact ⟨h1, h2, h3, h4, h5, kv, h6, h7, by omega⟩
theorem PJ.box (h : PJ b fd l ml fl ns ms fr H n G) (x : ExB b G G2) (b2 : BoxAt G2 b) : PJ b fd l ml fl ns ms fr H n G2 := by
  obtain ⟨h1, h2, h3, h4, h5, kv, h6, h7, h8⟩ := h
  exact ⟨h1.trans x, b2, nb_strs h2 h3 x, nb_strs h2 h4 x, nb_strs h2 h5 x, kv, x _ _ (box_ne h2 h6 (fun _ _ _ z => by cases z)) h6, h7, h8⟩
theorem strs_nd {a d : Addr} {kv : List (Key × V)} {ns : List Str} {o : HO} (h : G a = some (.lst (ns.map V.str))) (hd : G d = some (.dK kv)) : upd G d o a = some (.lst (ns.map V.str)) := by
  rw [upd_ne (ne_of h hd (fun z => by cases z))]
  exact h
/-- d[s] = s' -/
theorem PJ.put (h : PJ b fd l ml fl ns ms fr H n G) (hfd : H fd = none) (hn : n ≤ 100) {s s' : Str} (hs : Tx 100 s) (hs' : Tx 100 s') {R : Hp → Prop} (k : ∀ G2, PJ b fd l ml fl ns ms fr H (n + 1) G2 → R G2) : ∃ H4, DPut G fd (.str s) (.str s') H4 ∧ R H4 := by
  obtain ⟨h1, h2, h3, h4, h5, kv, h6, h7, h8⟩ := h
  refine ⟨_, .inl ⟨kv, .inr s, h6, rfl, Evl.sz_lt (by omega), rfl⟩, k _ ⟨exB_put h1 hfd, box_put h2 (box_ne h2 h6 (fun _ _ _ z => by cases z)).symm, strs_nd h3 h6, strs_nd h4 h6, strs_nd h5 h6, _, upd_same, h7.put hs hs', ?_⟩⟩
  have := putK_len kv (.inr s) (.str s')
  omega
end
def sp_pairs_l : Sp := fun vs H Q _ => ∃ (b l : Addr) (ns : List Str), vs = [.ref b, .ref l] ∧ BoxAt H b ∧ H l = some (.lst (ns.map V.str)) ∧ ns.length ≤ 12 ∧ (∀ s ∈ ns, Tx 100 s) ∧ ∀ (kv : List (Key × V)) p H2, NmOk kv → kv.length ≤ 30 → H p = none → ExB b H H2 → BoxAt H2 b → H2 p = some (.dK kv) → Q (.ref p) H2
theorem ok_pairs_l (T : Txt K mg Z) : FnOk P w K mg base CX0 4 Z.f_pairs_l Z.fd_pairs_l ["_law_box_here", "_law_names_here"] sp_pairs_l := by
  have G_take_l := ok_take_l (P := P) (w := w) (base := base) T
  have G_mixed_l := ok_mixed_l (P := P) (w := w) (base := base) T
  have G_names_l := ok_names_l (P := P) (w := w) (base := base) T
  refine T.F_pairs_l.ok sc_pairs_l (fun vs H Q E h => ?_) (fun cdv AA outer s H vs Q E hr h => ?_)
  · obtain ⟨b, l, ns, rfl, _⟩ := h
    rfl
  · obtain ⟨b, l, ns, rfl, hB, hl, hn, htx, k⟩ := h
    refine ⟨_, (pss_cons (ps_set (i := 2) sc_pairs_l.nd rfl (Or.inl rfl) (pe_call G_take_l (hr.mono (by omega)) rfl T.g_take_l T.F_take_l.kp T.b_take_l .nil pass0 (pa_cons (pv 0) (pa_cons pe_int pa_nil))))
      (pss_cons (ps_set (i := 3) sc_pairs_l.nd rfl (Or.inl rfl) pe_dnewK)
      (pss_cons (ps_set (i := 4) sc_pairs_l.nd rfl (Or.inl rfl) (pe_call G_mixed_l (hr.mono (by omega)) rfl T.g_mixed_l T.F_mixed_l.kp T.b_mixed_l .nil pass0 (pa_cons (pv 0) (pa_cons (pv 1) pa_nil))))
      (pss_cons (ps_set (i := 5) sc_pairs_l.nd rfl (Or.inl rfl) (pe_call G_names_l (hr.mono (by omega)) rfl T.g_names_l T.F_names_l.kp T.b_names_l .nil pass0 (pa_cons (pv 0) (pa_cons pe_int pa_nil))))
      (Evl.pss_cut (ps_for PassesOwn.never rfl (pi_enum (by rfl) T.n_enumerate (pa_cons (pv 1) pa_nil)) (pg_tup (by rfl) (pgs_cons (pg_name (i := 6) sc_pairs_l.nd rfl (Or.inl rfl)) (pgs_cons (pg_name (i := 7) sc_pairs_l.nd rfl (Or.inl rfl)) pgs_nil))) (Evl.pss_cut (ps_if (pt_cmpR op_eq (pv 2) pe_int (nomark _)) (pss_one (ps_dput (hu_of hr) (pv 3) (pv 7) (pe_ix ix_list (pv 4) (pv 6) (fun _ _ => rfl)) rfl)) pss_nil)
      (pss_one (ps_if (PW.pt (pw_and (pt_cmpR op_eq (pv 2) pe_int (nomark _)) (pw_and1 (pt_cmpR op_eq (pe_call G_take_l (hr.mono (by omega)) rfl T.g_take_l T.F_take_l.kp T.b_take_l .nil pass0 (pa_cons (pv 0) (pa_cons pe_int pa_nil))) pe_int (nomark _))))) (pss_one (ps_dput (hu_of hr) (pv 3) (pv 7) (pe_ix ix_list (pv 5) (pv 6) (fun _ _ => rfl)) rfl)) pss_nil))))
      (Evl.pss_cut (ps_if (PW.pt (pw_and (pt_cmpR (op_neD hr.units) (pv 1) (pe_lst pa_nil) (nomark _)) (pw_and1 (pt_cmpR op_eq (pe_call G_take_l (hr.mono (by omega)) rfl T.g_take_l T.F_take_l.kp T.b_take_l .nil pass0 (pa_cons (pv 0) (pa_cons pe_int pa_nil))) pe_int (nomark _))))) (pss_one (ps_dput (hu_of hr) (pv 3) (pe_ix ix_list (pv 1) (pe_call G_take_l (hr.mono (by omega)) rfl T.g_take_l T.F_take_l.kp T.b_take_l .nil pass0 (pa_cons (pv 0) (pa_cons (pe_callB call_len_seq (by rfl) T.n_len (by decide +kernel) (pa_cons (pv 1) pa_nil)) pa_nil))) (fun _ _ => rfl)) (pe_ix ix_list (pv 1) (pe_call G_take_l (hr.mono (by omega)) rfl T.g_take_l T.F_take_l.kp T.b_take_l .nil pass0 (pa_cons (pv 0) (pa_cons (pe_callB call_len_seq (by rfl) T.n_len (by decide +kernel) (pa_cons (pv 1) pa_nil)) pa_nil))) (fun _ _ => rfl)) rfl)) pss_nil)
      (pss_cons (ps_dput (hu_of hr) (pv 3) pe_str pe_str rfl)
      (pss_one (ps_ret (pv 3)))))))))), ?_⟩
    walk_at "ss"
    refine ⟨b, 3, rfl, hB, by decide, by decide, fun wy H1 wy0 wy1 x1 b1 => ?_⟩
    walk_at "ss"
    intro fd hfd
    have hfdH : H fd = none := freshB x1 b1 hfd
    have e2 : Ex H1 (upd H1 fd (.dK [])) := Ex.new hfd
    have g2 : upd H1 fd (.dK []) fd = some (.dK []) := upd_same
    generalize upd H1 fd (.dK []) = H2 at e2 g2
    have nfb : fd ≠ b := by
      obtain ⟨o, ho⟩ := b1.some
      exact (ne_of_none ho hfd).symm
    have gl1 := nb_strs hB hl x1
    walk_at "ss"
    refine ⟨b, l, ns, rfl, b1.up e2, e2 _ _ gl1, by omega, fun s hs => (htx s hs).1, fun ms ml H3 hperm hml x3 b3 gm => ?_⟩
    have hms : ms.length = ns.length := hperm.length_eq
    have htm : ∀ s ∈ ms, Tx 100 s := fun s hs => htx s (hperm.mem_iff.mp hs)
    have g3 := x3 _ _ nfb g2
    walk_at "ss"
    refine ⟨b, 30, rfl, b3, by decide, by decide, fun fr fl H4 hfr htf hfl x4 b4 gf => ?_⟩
    have g4 := x4 _ _ nfb g3
    have gm4 := nb_strs b3 gm x4
    have gl4 := nb_strs b3 (nb_strs (b1.up e2) (e2 _ _ gl1) x3) x4
    have X4 : ExB b H H4 := x1.trans ((ExB.of e2).trans (x3.trans x4))
    have nlf : l ≠ fd := ne_of_none gl1 hfd
    have nmf : ml ≠ fd := (ne_of_none g2 hml).symm
    have nff : fl ≠ fd := (ne_of_none g3 hfl).symm
    walk_at "ss"
    refine c_cut (M := fun σ' G => (∃ v6 v7, σ' = [some (.ref b), some (.ref l), some (.int wy), some (.ref fd), some (.ref ml), some (.ref fl), v6, v7]) ∧ PJ b fd l ml fl ns ms fr H 24 G) ?_ ?_
    · walk_at "ss"
      refine ⟨l, _, rfl, SqL.of gl4, ?_⟩
      refine forE (xs := ns.map V.str) (fun i σ' G => (∃ v6 v7, σ' = [some (.ref b), some (.ref l), some (.int wy), some (.ref fd), some (.ref ml), some (.ref fl), v6, v7]) ∧ PJ b fd l ml fl ns ms fr H (2 * i) G) ⟨⟨_, _, rfl⟩, X4, b4, gl4, gm4, gf, [], g4, NmOk.nil, Nat.le_refl _⟩ (fun i σ' G _ q => SqL.of q.2.2.2.1) ?_ ?_
      · rintro i x T σ' G hx ⟨⟨v6, v7, rfl⟩, hJ⟩ hT
        rw [List.getElem?_map] at hx
        obtain ⟨s, hs, rfl⟩ := Option.map_eq_some_iff.mp hx
        have hil := (List.getElem?_eq_some_iff.mp hs).1
        have hst := htx s (List.mem_of_getElem? hs)
        have f0 : Ex G (upd G T (.tup [.int (i : Nat), .str s])) := Ex.new hT
        refine c_gTup (SqT.of upd_same) rfl ?_
        generalize upd G T (.tup [.int (i : Nat), .str s]) = G0 at f0
        have hJ0 := hJ.up f0
        walk_at "ss"
        refine c_cut (M := fun σ' G => σ' = [some (.ref b), some (.ref l), some (.int wy), some (.ref fd), some (.ref ml), some (.ref fl), some (.int (i : Nat)), some (.str s)] ∧ PJ b fd l ml fl ns ms fr H (2 * i + 1) G) ?_ ?_
        · walk_at "ss"
          refine if_cs (fun _ => ?_) (fun _ => ?_)
          · walk_at "ss"
            obtain ⟨s1, hs1, hm1⟩ := at_str (ns := ms) (d := (i : Int)) (by omega) (by omega)
            refine c_ixL (SqL.of hJ0.2.2.2.1) hs1 ?_
            walk_at "ss"
            obtain ⟨H4, hp, q⟩ := hJ0.put hfdH (by omega) hst (htm s1 hm1) (R := fun G2 => PJ b fd l ml fl ns ms fr H (2 * i + 1) G2) (fun _ h => h)
            exact ⟨fd, H4, rfl, hp, rfl, q⟩
          · walk_at "ss"
            exact hJ0.mono (by omega)
        · rintro σ' G1 ⟨rfl, hJ1⟩
          walk_at "ss"
          refine if_cs (fun _ => ?_) (fun _ => ?_)
          · walk_at "ss"
            refine ⟨b, 2, rfl, hJ1.2.1, by decide, by decide, fun d G2 _ _ x2 b2 => ?_⟩
            have hJ2 := hJ1.box x2 b2
            walk_at "ss"
            refine if_cs (fun _ => ?_) (fun _ => ?_)
            · walk_at "ss"
              obtain ⟨s1, hs1, hm1⟩ := at_str (ns := fr) (d := (i : Int)) (by omega) (by omega)
              refine c_ixL (SqL.of hJ2.2.2.2.2.1) hs1 ?_
              walk_at "ss"
              obtain ⟨H4, hp, q⟩ := hJ2.put hfdH (by omega) hst (htf s1 hm1) (R := fun G2 => PJ b fd l ml fl ns ms fr H (2 * i + 1 + 1) G2) (fun _ h => h)
              exact ⟨fd, H4, rfl, hp, ⟨_, _, rfl⟩, q⟩
            · walk_at "ss"
              exact ⟨⟨_, _, rfl⟩, hJ2.mono (by omega)⟩
          · walk_at "ss"
            exact ⟨⟨_, _, rfl⟩, hJ1.mono (by omega)⟩
      · rintro σ' G ⟨⟨v6, v7, rfl⟩, hJ⟩
        rw [List.length_map] at hJ
        walk_at "ss"
        exact ⟨⟨_, _, rfl⟩, hJ.mono (by omega)⟩
    · rintro σ' G ⟨⟨v6, v7, rfl⟩, hJ⟩
      walk_at "ss"
      refine c_cut (M := fun σ' G => (∃ v6 v7, σ' = [some (.ref b), some (.ref l), some (.int wy), some (.ref fd), some (.ref ml), some (.ref fl), v6, v7]) ∧ PJ b fd l ml fl ns ms fr H 25 G) ?_ ?_
      · walk_at "ss"
        refine newL fun q G1 hq f1 m1 => ?_
        have hJ1 := hJ.up f1
        refine ne_nil_false hJ1.2.2.1 m1 (fun s hs => (htx s hs).1) ?_
        walk_at "ss"
        refine if_cs (fun hc => ?_) (fun _ => ?_)
        · have hn0 : 0 < ns.length := by
            cases ns with
            | nil => cases hc
            | cons a r => simp
          walk_at "ss"
          refine ⟨b, 2, rfl, hJ1.2.1, by decide, by decide, fun d G2 _ _ x2 b2 => ?_⟩
          have hJ2 := hJ1.box x2 b2
          walk_at "ss"
          refine if_cs (fun _ => ?_) (fun _ => ?_)
          · walk_at "ss"
            refine ⟨l, _, rfl, .inl (SqL.of hJ2.2.2.1), ?_⟩
            walk_at "ss"
            refine ⟨b, _, rfl, hJ2.2.1, by rw [List.length_map]; omega, by rw [List.length_map]; omega, fun d3 G3 h30 h31 x3 b3 => ?_⟩
            rw [List.length_map] at h31
            have hJ3 := hJ2.box x3 b3
            obtain ⟨s1, hs1, hm1⟩ := at_str (ns := ns) h30 h31
            refine c_ixL (SqL.of hJ3.2.2.1) hs1 ?_
            walk_at "ss"
            refine ⟨l, _, rfl, .inl (SqL.of hJ3.2.2.1), ?_⟩
            walk_at "ss"
            refine ⟨b, _, rfl, hJ3.2.1, by rw [List.length_map]; omega, by rw [List.length_map]; omega, fun d4 G4 h40 h41 x4 b4 => ?_⟩
            rw [List.length_map] at h41
            have hJ4 := hJ3.box x4 b4
            obtain ⟨s2, hs2, hm2⟩ := at_str (ns := ns) h40 h41
            refine c_ixL (SqL.of hJ4.2.2.1) hs2 ?_
            obtain ⟨H4, hp, q⟩ := hJ4.put hfdH (by omega) (htx s2 hm2) (htx s1 hm1) (R := fun G2 => PJ b fd l ml fl ns ms fr H (24 + 1) G2) (fun _ h => h)
            exact ⟨fd, H4, rfl, hp, ⟨_, _, rfl⟩, q⟩
          · walk_at "ss"
            exact ⟨⟨_, _, rfl⟩, hJ2.mono (by omega)⟩
        · walk_at "ss"
          exact ⟨⟨_, _, rfl⟩, hJ1.mono (by omega)⟩
      · rintro σ' G1 ⟨⟨v6, v7, rfl⟩, hJ1⟩
        walk_at "ss"
        obtain ⟨H4, hp, q⟩ := hJ1.put hfdH (by omega) (s := "nobodyq") (s' := "q") (tx_lit (by decide +kernel)) (tx_lit (by decide +kernel)) (R := fun G2 => PJ b fd l ml fl ns ms fr H (25 + 1) G2) (fun _ h => h)
        refine ⟨fd, H4, rfl, hp, ?_⟩
        walk_at "ss"
        obtain ⟨h1, h2, h3, h4, h5, kv, h6, h7, h8⟩ := q
        exact k kv fd H4 h7 (by omega) hfdH h1 h2 h6

open TL (tl)
/-! ### the rows with other names -/
def rowK (ps : List (Str × V)) : List (Key × V) := ps.map fun p => (.inr p.1, p.2)
def DupAt (l : List Str) (j : Nat) (s : Str) : Prop := l[j]? = some s ∧ s ∈ l.take j ∧ (l.take j).Nodup
theorem nodup_take {l : List Str} {i : Nat} {s : Str} (h : (l.take i).Nodup) (hs : l[i]? = some s) (hn : s ∉ l.take i) : (l.take (i + 1)).Nodup := by
  rw [List.take_add_one, hs, List.nodup_append]
  refine ⟨h, by simp, fun a ha b hb e => hn ?_⟩
  have : b = s := by simpa using hb
  rw [← this, ← e]
  exact ha
theorem nodup_or_dup (l : List Str) : l.Nodup ∨ ∃ j s, DupAt l j s := by
  have key : ∀ n, n ≤ l.length → (l.take n).Nodup ∨ ∃ j s, DupAt l j s := by
    intro n
    induction n with
    | zero => exact fun _ => .inl (by simp)
    | succ n ih =>
      intro hn
      rcases ih (by omega) with h | h
      · have hs : l[n]? = some (l[n]'(by omega)) := List.getElem?_eq_getElem (by omega)
        by_cases hm : l[n]'(by omega) ∈ l.take n
        · exact .inr ⟨n, _, hs, hm, h⟩
        · exact .inl (nodup_take h hs hm)
      · exact .inr h
  have := key l.length (Nat.le_refl _)
  rw [List.take_length] at this
  exact this
theorem valV_mem0 {kv : List (Key × V)} {k : Key} {v : V} (h : valV kv k = some v) : (k, v) ∈ kv := by
  induction kv with
  | nil => cases h
  | cons p r ih =>
    by_cases e : p.1 = k
    · rw [valV_pos e] at h
      have : p = (k, v) := by rw [← e, ← Option.some.inj h]
      rw [this]
      exact List.mem_cons_self
    · rw [valV_neg e] at h
      exact List.mem_cons_of_mem _ (ih h)
theorem getD_fK {nm : List (Key × V)} (h : NmOk nm) (s : Str) : (valV nm (.inr s)).getD (.str s) = .str (fK nm s) := by
  unfold fK
  cases hv : valV nm (.inr s) with
  | none => rfl
  | some v =>
    obtain ⟨a, b, he, _, _⟩ := h.2 _ (Toy.valV_mem0 hv)
    injection he with _ he
    subst he
    rfl
theorem fK_tx {nm : List (Key × V)} (h : NmOk nm) {s : Str} (hs : Tx 100 s) : Tx 100 (fK nm s) := by
  unfold fK
  cases hv : valV nm (.inr s) with
  | none => exact hs
  | some v =>
    obtain ⟨a, b, he, _, hb⟩ := h.2 _ (Toy.valV_mem0 hv)
    injection he with _ he
    subst he
    exact hb
def newsOf (nm : List (Key × V)) (ps : List (Str × V)) : List Str := ps.map fun p => fK nm p.1
/-- nothing is told twice, or the first thing that is -/
def Two2 (Z : Adr) (l : List Str) (H : Hp) (E : XK) (A : Prop) : Prop := (l.Nodup ∧ A) ∨ ∃ j s, DupAt l j s ∧ ∀ x H2, H x = none → Ex H H2 → H2 x = some (.xd [("name", .str s)]) → E (.ref Z.c_Twice) (some x) H2
theorem exB_back {r : Addr} {H G : Hp} {u : HO} (hr : H r = some u) (x : ExB r H G) : Ex H (upd G r u) := fun a o ha => by
  by_cases h : a = r
  · subst h
    rw [upd_same, ← ha, hr]
  · rw [upd_ne h]
    exact x a o h ha
theorem c_unl {t : TS} {D : Ends} {σ : St} {H H0 : Hp} {d : Addr} {od : Obj} {u : HO} {kv : List (Key × V)} (hd : H d = some (.frz od u)) (h0 : H0 d = some (.dK kv)) (h : t D σ (upd H d u)) : tUnl H0 t D σ H :=
  ⟨d, od, u, hd, fun o' u' e => (by rw [h0] at e; cases e), h⟩
def sp_need_unlikeX (Z : Adr) : Sp := fun vs H Q E => ∃ (r n : Addr) (ps : List (Str × V)) (nm : List (Key × V)), vs = [.ref r, .ref n] ∧ H r = some (.dK (rowK ps)) ∧ H n = some (.dK nm) ∧ r ≠ n ∧ NmOk nm ∧ ps.length ≤ 100 ∧ Two2 Z (newsOf nm ps) H E (∀ H2, Ex H H2 → Q .non H2)
theorem okX_need_unlike (T : Txt K mg Z) : FnOk P w K mg base (L2.CX P w) 3 Z.f_need_unlike Z.fd_need_unlike ["names", "fresh"] (sp_need_unlikeX Z) := by
  have G_Twice_init := ok_Twice_init (P := P) (w := w) (base := base) T
  refine T.F_need_unlike.okX sc_need_unlike (fun vs H Q E h => ?_) (fun cdv AA outer s H vs Q E hr h => ?_)
  · obtain ⟨r, n, ps, nm, rfl, _⟩ := h
    rfl
  · obtain ⟨r, n, ps, nm, rfl, gr, gn, hrn, hok, hl, h2⟩ := h
    refine ⟨_, (pss_cons (ps_set (i := 2) sc_need_unlike.nd rfl (Or.inl rfl) pe_dnewK)
      (pss_one (ps_lock (ps_for (passes_of rfl) rfl (pi_keys (pv 0)) (pg_name (i := 3) sc_need_unlike.nd rfl (Or.inl rfl)) (pss_cons (ps_set (i := 4) sc_need_unlike.nd rfl (Or.inl rfl) (pe_dget2 (hu_of hr) (pv 1) (pv 3) (pv 3) ⟨rfl, rfl, rfl, rfl⟩))
      (pss_cons (ps_if (pt_cmpR (op_inDk (hu_of hr)) (pv 4) (pv 2) (by rfl)) (pss_one (ps_unl (ps_raise rfl (takes_of rfl rfl rfl rfl) (pmk_oex (exB_ok T.x_Twice).ox T.i_Twice T.y_Twice G_Twice_init (hr.mono (by omega)) T.b_Twice_init .nil pass0 rfl T.m_Twice (pa_cons (pv 4) pa_nil))))) pss_nil)
      (pss_one (ps_dput (hu_of hr) (pv 2) (pv 4) pe_bl rfl)))))))), ?_⟩
    walk_at "ss"
    intro ad had
    have e1 : Ex H (upd H ad (.dK [])) := Ex.new had
    have g1 : upd H ad (.dK []) ad = some (.dK []) := upd_same
    generalize upd H ad (.dK []) = H1 at e1 g1
    have nar : ad ≠ r := (ne_of_none gr had).symm
    have nan : ad ≠ n := (ne_of_none gn had).symm
    walk_at "ss"
    refine c_lock (e1 _ _ gr) trivial fun od => ?_
    walk_at "ss"
    refine ⟨r, od, rfl, .inl ⟨_, upd_same, ?_⟩⟩
    have hnl : (newsOf nm ps).length = ps.length := List.length_map _
    refine forK (fun i σ' G => (∃ v3 v4, σ' = [some (.ref r), some (.ref n), some (.ref ad), v3, v4]) ∧ ExB r H G ∧ G r = some (.frz od (.dK (rowK ps))) ∧ ((newsOf nm ps).take i).Nodup ∧ (∀ j s, DupAt (newsOf nm ps) j s → i ≤ j) ∧ ∃ ka, G ad = some (.dK ka) ∧ ka.length ≤ i ∧ ∀ z, (valV ka (.inr z)).isSome = decide (z ∈ (newsOf nm ps).take i))
      ⟨⟨_, _, rfl⟩, fun a o na ha => by rw [upd_ne na]; exact e1 _ _ ha, upd_same, by simp, fun _ _ _ => Nat.zero_le _, [], by rw [upd_ne nar]; exact g1, Nat.le_refl _, fun z => by simp [valV]⟩ (fun i σ' G _ q => q.2.2.1) ?_ ?_
    · rintro i key v σ' G hk ⟨⟨v3, v4, rfl⟩, xG, gG, hnd, hdup, ka, ga, hkl, hka⟩
      unfold rowK at hk
      rw [List.getElem?_map] at hk
      obtain ⟨p, hp, he⟩ := Option.map_eq_some_iff.mp hk
      injection he with he1 he2
      subst he1 he2
      have hil := (List.getElem?_eq_some_iff.mp hp).1
      have hni : (newsOf nm ps)[i]? = some (fK nm p.1) := by unfold newsOf; rw [List.getElem?_map, hp]; rfl
      have gn' := xG _ _ hrn.symm gn
      rw [show kV (Sum.inr p.1 : Key) = V.str p.1 from rfl]
      walk_at "ss"
      refine ⟨isD gn', ?_⟩
      walk_at "ss"
      refine ⟨_, dgetK gn', ?_⟩
      rw [getD_fK hok]
      walk_at "ss"
      refine ⟨ad, _, rfl, dgetK ga, ?_⟩
      walk_at "ss"
      rw [hka]
      by_cases hm : fK nm p.1 ∈ (newsOf nm ps).take i
      · refine if_tt (decide_eq_true hm) ?_
        refine c_unl gG gr ?_
        walk_at "ss"
        refine raise1 fun x H3 hx e3 g3 => ?_
        have eU : Ex H (upd G r (.dK (rowK ps))) := exB_back gr xG
        rcases h2 with ⟨hN, _⟩ | ⟨j, z, hD, k⟩
        · exact absurd rfl (nodup_at hN hni hm (Nat.le_refl _))
        · have hij := hdup j z hD
          have hij2 : i = j := by
            rcases Nat.lt_or_ge i j with hlt | hge
            · have h1 : ((newsOf nm ps).take j)[i]? = some (fK nm p.1) := by rw [List.getElem?_take_of_lt hlt]; exact hni
              have h2 : fK nm p.1 ∈ ((newsOf nm ps).take j).take i := by rw [List.take_take, Nat.min_eq_left (by omega)]; exact hm
              exact absurd rfl (nodup_at hD.2.2 h1 h2 (Nat.le_refl _))
            · omega
          subst hij2
          have hz : fK nm p.1 = z := Option.some.inj (hni.symm.trans hD.1)
          subst hz
          exact k x H3 (fresh_back eU hx) (eU.trans e3) g3
      · refine if_ff (decide_eq_false hm) ?_
        walk_at "ss"
        refine ⟨ad, _, rfl, .inl ⟨ka, .inr _, ga, rfl, Evl.sz_lt (by omega), rfl⟩, ?_⟩
        walk_at "ss"
        have hpl := putK_len ka (.inr (fK nm p.1)) (.bl true)
        refine ⟨⟨_, _, rfl⟩, exB_put xG had, by rw [upd_ne nar.symm]; exact gG, nodup_take hnd hni hm, fun j z hD => ?_, _, upd_same, by omega, fun z => ?_⟩
        · have hij := hdup j z hD
          rcases Nat.lt_or_ge i j with hlt | hge
          · exact hlt
          · have hij2 : i = j := by omega
            subst hij2
            have hz : fK nm p.1 = z := Option.some.inj (hni.symm.trans hD.1)
            exact absurd (by rw [hz]; exact hD.2.1) hm
        · rw [valV_put, List.take_add_one, hni]
          by_cases hz : z = fK nm p.1
          · rw [if_pos (by rw [hz])]
            simp [hz]
          · rw [if_neg (fun e => hz (Sum.inr.inj e)), hka]
            congr 1
            simp [hz]
    · rintro σ' G ⟨⟨v3, v4, rfl⟩, xG, gG, hnd, hdup, ka, ga, hkl, hka⟩
      refine ⟨gG, ?_⟩
      walk_at "ss"
      rcases h2 with ⟨hN, k⟩ | ⟨j, z, hD, k⟩
      · exact k _ (exB_back gr xG)
      · have h1 := hdup j z hD
        have h3 := (List.getElem?_eq_some_iff.mp hD.1).1
        have h4 : (rowK ps).length = ps.length := List.length_map _
        omega
def sp_named_rowX (Z : Adr) : Sp := fun vs H Q E => ∃ (r n : Addr) (ps : List (Str × V)) (nm : List (Key × V)), vs = [.ref r, .ref n] ∧ H r = some (.dK (rowK ps)) ∧ H n = some (.dK nm) ∧ r ≠ n ∧ NmOk nm ∧ ps.length ≤ 100 ∧ Two2 Z (newsOf nm ps) H E (∀ d H2, H d = none → Ex H H2 → H2 d = some (.dK (rowK (ps.map fun p => (fK nm p.1, p.2)))) → Q (.ref d) H2)
theorem okX_named_row (T : Txt K mg Z) : FnOk P w K mg base (L2.CX P w) 4 Z.f_named_row Z.fd_named_row ["row", "names"] (sp_named_rowX Z) := by
  have GX_need_unlike := okX_need_unlike (P := P) (w := w) (base := base) T
  refine T.F_named_row.okX sc_named_row (fun vs H Q E h => ?_) (fun cdv AA outer s H vs Q E hr h => ?_)
  · obtain ⟨r, n, ps, nm, rfl, _⟩ := h
    rfl
  · obtain ⟨r, n, ps, nm, rfl, gr, gn, hrn, hok, hl, h2⟩ := h
    refine ⟨_, (pss_cons (ps_expr (pe_call GX_need_unlike (hr.mono (by omega)) rfl T.g_need_unlike T.F_need_unlike.kp T.b_need_unlike .nil (passes_call (takes_of rfl rfl rfl rfl) (fun _ _ _ _ h => h)) (pa_cons (pv 0) (pa_cons (pv 1) pa_nil))))
      (pss_cons (ps_set (i := 2) sc_named_row.nd rfl (Or.inl rfl) pe_dnewK)
      (pss_cons (ps_lock (ps_for (passes_of rfl) rfl (pi_items (pv 0)) (pg_tup (by rfl) (pgs_cons (pg_name (i := 3) sc_named_row.nd rfl (Or.inl rfl)) (pgs_cons (pg_name (i := 4) sc_named_row.nd rfl (Or.inl rfl)) pgs_nil))) (pss_one (ps_dput (hu_of hr) (pv 2) (pe_dget2 (hu_of hr) (pv 1) (pv 3) (pv 3) ⟨rfl, rfl, rfl, rfl⟩) (pv 4) rfl))))
      (pss_one (ps_ret (pv 2)))))), ?_⟩
    walk_at "ss"
    refine ⟨r, n, ps, nm, rfl, gr, gn, hrn, hok, hl, ?_⟩
    rcases h2 with ⟨hN, k⟩ | ⟨j, z, hD, k⟩
    · refine .inl ⟨hN, fun H1 e1 => ?_⟩
      walk_at "ss"
      intro fd hfd
      have hfdH : H fd = none := fresh_back e1 hfd
      have e2 : Ex H1 (upd H1 fd (.dK [])) := Ex.new hfd
      have g2 : upd H1 fd (.dK []) fd = some (.dK []) := upd_same
      generalize upd H1 fd (.dK []) = H2 at e2 g2
      have e12 := e1.trans e2
      have nfr : fd ≠ r := (ne_of_none gr hfdH).symm
      walk_at "ss"
      refine c_lock (e12 _ _ gr) trivial fun od => ?_
      walk_at "ss"
      refine ⟨r, od, _, rfl, upd_same, ?_⟩
      refine forIt (fun i σ' G => (∃ v3 v4, σ' = [some (.ref r), some (.ref n), some (.ref fd), v3, v4]) ∧ ExB r H G ∧ G r = some (.frz od (.dK (rowK ps))) ∧ G fd = some (.dK (rowK ((ps.take i).map fun p => (fK nm p.1, p.2)))))
        ⟨⟨_, _, rfl⟩, fun a o na ha => by rw [upd_ne na]; exact e12 _ _ ha, upd_same, by rw [upd_ne nfr]; exact g2⟩ (fun i σ' G _ q => q.2.2.1) ?_ ?_
      · rintro i key v T0 σ' G hk ⟨⟨v3, v4, rfl⟩, xG, gG, gf⟩ hT
        unfold rowK at hk
        rw [List.getElem?_map] at hk
        obtain ⟨p, hp, he⟩ := Option.map_eq_some_iff.mp hk
        injection he with he1 he2
        subst he1 he2
        have hil := (List.getElem?_eq_some_iff.mp hp).1
        have hni : (newsOf nm ps)[i]? = some (fK nm p.1) := by unfold newsOf; rw [List.getElem?_map, hp]; rfl
        have f0 : Ex G (upd G T0 (.tup [kV (Sum.inr p.1 : Key), p.2])) := Ex.new hT
        refine c_gTup (SqT.of upd_same) rfl ?_
        generalize upd G T0 (.tup [kV (Sum.inr p.1 : Key), p.2]) = G0 at f0
        rw [show kV (Sum.inr p.1 : Key) = V.str p.1 from rfl]
        have gn' := f0 _ _ (xG _ _ hrn.symm gn)
        walk_at "ss"
        refine ⟨isD gn', ?_⟩
        walk_at "ss"
        refine ⟨_, dgetK gn', ?_⟩
        rw [getD_fK hok]
        have hlt : (rowK ((ps.take i).map fun p => (fK nm p.1, p.2))).length ≤ i := by
          unfold rowK
          rw [List.length_map, List.length_map, List.length_take]
          omega
        refine ⟨fd, _, rfl, .inl ⟨_, .inr _, f0 _ _ gf, rfl, Evl.sz_lt (by omega), rfl⟩, ?_⟩
        walk_at "ss"
        refine ⟨⟨_, _, rfl⟩, exB_put (xG.trans (ExB.of f0)) hfdH, by rw [upd_ne nfr.symm]; exact f0 _ _ gG, ?_⟩
        rw [upd_same, putK_fresh]
        · unfold rowK
          rw [List.take_add_one, hp, List.map_append, List.map_append]
          rfl
        · intro hin
          unfold rowK at hin
          rw [List.map_map, List.map_map] at hin
          obtain ⟨q, hq, he⟩ := List.mem_map.mp hin
          have he2 : fK nm q.1 = fK nm p.1 := Sum.inr.inj he
          have hq2 : fK nm p.1 ∈ (newsOf nm ps).take i := by
            unfold newsOf
            rw [← List.map_take, ← he2]
            exact List.mem_map.mpr ⟨q, hq, rfl⟩
          exact absurd rfl (nodup_at hN hni hq2 (Nat.le_refl _))
      · rintro σ' G ⟨⟨v3, v4, rfl⟩, xG, gG, gf⟩
        refine ⟨gG, ?_⟩
        walk_at "ss"
        refine k fd _ hfdH (exB_back gr xG) ?_
        rw [upd_ne nfr, gf]
        have h4 : (rowK ps).length = ps.length := List.length_map _
        rw [h4, List.take_length]
    · exact .inr ⟨j, z, hD, k⟩
/-! clocks -/
def sp_named_clock (K : PySem.W.Frag) : Sp := fun vs H Q _ => ∃ (c n : Addr) (ns : List Str) (nm : List (Key × V)), vs = [.ref c, .ref n] ∧ H c = some (.tup (ns.map V.str)) ∧ H n = some (.dK nm) ∧ NmOk nm ∧ ns.length ≤ 100 ∧ RetT ((ns.map (fK nm)).map V.str) H Q
theorem list_of_ix {ys : List V} {zs : List V} (hl : ys.length = zs.length) (h : ∀ (i : Nat) (y : V), ys[i]? = some y → zs[i]? = some y) : ys = zs := by
  apply List.ext_getElem? 
  intro i
  cases hy : ys[i]? with
  | some y => exact (h i y hy).symm
  | none =>
    rw [List.getElem?_eq_none_iff] at hy
    rw [List.getElem?_eq_none (by omega)]
theorem ok_named_clock (T : Txt K mg Z) : FnOk P w K mg base CX0 1 Z.f_named_clock Z.fd_named_clock ["clock", "names"] (sp_named_clock K) := by
  refine T.F_named_clock.ok sc_named_clock (fun vs H Q E h => ?_) (fun cdv AA outer s H vs Q E hr h => ?_)
  · obtain ⟨c, n, ns, nm, rfl, _⟩ := h
    rfl
  · obtain ⟨c, n, ns, nm, rfl, gc, gn, hok, hl, k⟩ := h
    refine ⟨_, (pss_one (ps_ret (pe_callTy call_tuple_of (by rfl) T.n_tuple (by decide +kernel) (pa_cons (pe_lc (own := [("name", 2)]) (g := (gName 2)) (tt := tYes) (te := (tDGet2 (tVar 1) (tVar 2) (tVar 2))) rfl sc_named_clock.nd (pi_tup (pv 0)) (blkOk_by (own := [("name", 2)]) (N := N_named_clock) (sc := defScope s_named_clock) (by decide +kernel)) (fun _ _ _ _ _ => (pg_name (i := 2) sc_named_clock.nd rfl (Or.inl rfl))) (fun _ _ _ _ _ => pts_nil) (fun _ _ _ _ _ => (pe_dget2 (hu_of hr) (pv 1) (pv 2) (pv 2) ⟨rfl, rfl, rfl, rfl⟩))) pa_nil)))), ?_⟩
    walk_at "ss"
    refine ⟨⟨_, SqT.of gc⟩, ?_⟩
    refine lcTN (fun i y _ => ((ns.map (fK nm)).map V.str)[i]? = some y) (fun _ _ _ _ _ h => h) (SqT.of gc) (by rw [List.length_map]; omega) (fun i x hx H2 e2 R N hR => ?_) (fun ys p H2 hyl hy hp e2 g2 => ?_)
    · rw [List.getElem?_map] at hx
      obtain ⟨s, hs, rfl⟩ := Option.map_eq_some_iff.mp hx
      walk_at "ss"
      refine ⟨isD (e2 _ _ gn), ?_⟩
      walk_at "ss"
      refine ⟨_, dgetK (e2 _ _ gn), ?_⟩
      rw [getD_fK hok]
      exact hR _ _ (Ex.refl _) (by rw [List.getElem?_map, List.getElem?_map, hs]; rfl)
    have hys := list_of_ix (by rw [hyl, List.length_map, List.length_map, List.length_map]) hy
    subst hys
    walk_at "ss"
    refine ⟨_, _, rfl, .inl ⟨SqL.of g2, fun l hl => ?_⟩⟩
    exact k l _ (fresh_back e2 hl) (e2.trans (Ex.new hl)) upd_same

open TL (tl)
/-! ### what is answered, and what is due -/
theorem lk_hd {f : Str} {v : V} {fs : List (Str × V)} : List.lookup f ((f, v) :: fs) = some v := by simp [List.lookup]
theorem kb_dd : kitB "dict" "dict" = some true := by decide +kernel
theorem kb_tt : kitB "tuple" "tuple" = some true := by decide +kernel
/-- a value of a row -/
def Fl (v : V) : Prop := v = .non ∨ (∃ b, v = .bl b) ∨ ∃ i : Int, v = .int i ∧ i.natAbs < 10 ^ 12
theorem Fl.flat {v : V} (h : Fl v) : flatV v = true := by
  rcases h with rfl | ⟨b, rfl⟩ | ⟨i, rfl, _⟩ <;> rfl
theorem Fl.ok {v : V} (h : Fl v) : okV v = true := by
  rcases h with rfl | ⟨b, rfl⟩ | ⟨i, rfl, _⟩ <;> rfl
theorem Fl.rp {v : V} (h : Fl v) : RpOk 0 0 (dOf v) := by
  rcases h with rfl | ⟨b, rfl⟩ | ⟨i, rfl, hi⟩
  · exact rp_non
  · exact rp_bl b
  · exact rp_int hi
def RowsOk (ps : List (Str × V)) : Prop := (∀ p ∈ ps, Tx 100 p.1 ∧ Fl p.2) ∧ (ps.map Prod.fst).Nodup ∧ ps.length ≤ 12
def pairD (p : Str × V) : PyData := .tuple [.str p.1, dOf p.2]
def ansT (ps : List (Str × V)) : PyData := .tuple [.str "told", .list (ps.map pairD), .bool true]
def ansW (s : Str) : PyData := .tuple [.str "twice", .str s, .bool true]
theorem rp_tx {n : Nat} {s : Str} (h : Tx n s) : RpOk 0 n (.str s) := (rp_str h.1).mono (Nat.le_refl _) h.2
theorem ansT_rp {ps : List (Str × V)} (h : ∀ p ∈ ps, Tx 100 p.1 ∧ Fl p.2) (hl : ps.length ≤ 12) : RpOk 5 10000 (ansT ps) := by
  have h1 : RpAll 1 ((ps.map pairD).length * (200 + 1)) (ps.map pairD) := rp_all fun d hd => by
    obtain ⟨p, hp, rfl⟩ := List.mem_map.mp hd
    exact (rp_tup (rp_cons (rp_tx (h p hp).1) (rp_cons (h p hp).2.rp rp_nil))).mono (by omega) (by omega)
  rw [List.length_map] at h1
  exact (rp_tup (rp_cons (rp_tx (n := 10) (tx_lit (by decide +kernel))) (rp_cons (rp_lst h1) (rp_cons (rp_bl true) rp_nil)))).mono (by omega) (by omega)
theorem ansW_rp {s : Str} (h : Tx 100 s) : RpOk 5 10000 (ansW s) :=
  (rp_tup (rp_cons (rp_tx (n := 10) (tx_lit (by decide +kernel))) (rp_cons (rp_tx h) (rp_cons (rp_bl true) rp_nil)))).mono (by omega) (by omega)
theorem dp_pairs {G : Hp} : ∀ {ts : List Addr} {qs : List (Str × V)}, (∀ q ∈ qs, flatV q.2 = true) → Paired (fun (t : Addr) (q : Key × V) => G t = some (.tup [kV q.1, q.2])) ts (rowK qs) → DpAll K G (ts.map V.ref) (qs.map pairD)
  | _, [], _, h => by cases h; exact .nil
  | _, q :: qs, hf, h => by
    cases h with
    | cons h1 h2 => exact .cons (.tup (SqT.of h1) (.cons (.str _) (.cons (dp_flat (hf q List.mem_cons_self)) .nil))) (dp_pairs (fun z hz => hf z (List.mem_cons_of_mem _ hz)) h2)
theorem rowK_mem {ps : List (Str × V)} {p : Key × V} (h : p ∈ rowK ps) : ∃ q : Str × V, p = (.inr q.1, q.2) := by
  obtain ⟨q, _, rfl⟩ := List.mem_map.mp h
  exact ⟨q, rfl⟩
theorem rowK_nodup {ps : List (Str × V)} (h : (ps.map Prod.fst).Nodup) : ((rowK ps).map (·.1)).Nodup := by
  have e : (rowK ps).map (·.1) = (ps.map Prod.fst).map (Sum.inr : Str → Key) := by
    unfold rowK
    rw [List.map_map, List.map_map]
    rfl
  rw [e]
  unfold List.Nodup at h ⊢
  rw [List.pairwise_map]
  exact h.imp fun hne e => hne (Sum.inr.inj e)
theorem pair_news {nm : List (Key × V)} : ∀ {ys : List V} {ps : List (Str × V)}, Paired (fun y (p : Key × V) => ∃ s, p.1 = .inr s ∧ y = .str (fK nm s)) ys (rowK ps) → ys = (newsOf nm ps).map V.str
  | _, [], h => by cases h; rfl
  | _, p :: ps, h => by
    cases h with
    | cons h1 h2 =>
      obtain ⟨s, e1, e2⟩ := h1
      have : p.1 = s := Sum.inr.inj e1
      subst this
      rw [e2, pair_news h2]
      rfl
theorem cut_take {l : List Str} {i : Nat} : cutV (l.map V.str) none (some (i : Int)) = (l.take i).map V.str := by
  unfold cutV
  rw [HT.sIx_none, HT.sIx_nat, List.drop_zero, Nat.sub_zero, List.length_map, List.map_take]
  rcases Nat.le_total i l.length with h | h
  · rw [Nat.min_eq_left h]
  · rw [Nat.min_eq_right h, List.take_of_length_le (by rw [List.length_map]; omega), List.take_of_length_le (by rw [List.length_map]; omega)]
theorem flat_strs (l : List Str) : (l.map V.str).all flatV = true := by
  rw [List.all_eq_true]
  intro x hx
  obtain ⟨s, _, rfl⟩ := List.mem_map.mp hx
  rfl
theorem inV_str {n : Str} : ∀ {F : List Str}, inV (.str n) (F.map V.str) = F.contains n
  | [] => rfl
  | a :: F => by
    have ih := inV_str (n := n) (F := F)
    unfold inV at ih ⊢
    rw [List.map_cons, List.any_cons, ih, List.contains_cons]
    congr 1
    show (a == n) = (n == a)
    exact BEq.comm
theorem dp_told {nm : List (Key × V)} {G G2 : Hp} (hT : ∀ a xs, G a = some (.tup xs) → G2 a = some (.tup xs)) : ∀ {ys : List V} {ps : List (Str × V)}, (∀ q ∈ ps, flatV q.2 = true) → Paired (fun y (p : Key × V) => ∃ s a, p.1 = .inr s ∧ y = .ref a ∧ G a = some (.tup [.str (fK nm s), p.2])) ys (rowK ps) → DpAll K G2 ys ((ps.map fun p => (fK nm p.1, p.2)).map pairD)
  | _, [], _, h => by cases h; exact .nil
  | _, p :: ps, hf, h => by
    cases h with
    | cons h1 h2 =>
      obtain ⟨s, a, e1, e2, e3⟩ := h1
      have : p.1 = s := Sum.inr.inj e1
      subst this
      subst e2
      exact .cons (.tup (SqT.of (hT _ _ e3)) (.cons (.str _) (.cons (dp_flat (hf p List.mem_cons_self)) .nil))) (dp_told hT (fun z hz => hf z (List.mem_cons_of_mem _ hz)) h2)
/-- what both promise -/
def AnsP (K : PySem.W.Frag) (nm : List (Key × V)) (ps : List (Str × V)) (H : Hp) (Q : VK) : Prop :=
  ((newsOf nm ps).Nodup ∧ ∀ p H2, Ex H H2 → Dp K H2 (.ref p) (ansT (ps.map fun p => (fK nm p.1, p.2))) → Q (.ref p) H2) ∨ ∃ j s, DupAt (newsOf nm ps) j s ∧ ∀ p H2, Ex H H2 → Dp K H2 (.ref p) (ansW s) → Q (.ref p) H2
def sp_answer_l (K : PySem.W.Frag) : Sp := fun vs H Q _ => ∃ (r n : Addr) (ps : List (Str × V)) (nm : List (Key × V)), vs = [.ref r, .ref n] ∧ H r = some (.dK (rowK ps)) ∧ H n = some (.dK nm) ∧ r ≠ n ∧ NmOk nm ∧ RowsOk ps ∧ AnsP K nm ps H Q
theorem ok_answer_l (T : Txt K mg Z)  : FnOk P w K mg base CX0 (6) Z.f_answer_l Z.fd_answer_l ["_law_row", "_law_names_here"] (sp_answer_l K) := by
  refine T.F_answer_l.ok sc_answer_l (fun vs H Q E h => ?_) (fun cdv AA outer s H vs Q E hr h => ?_)
  · obtain ⟨r, n, ps, nm, rfl, _⟩ := h
    rfl
  · obtain ⟨r, n, ps, nm, rfl, gr, gn, hrn, hok, hps, h2⟩ := h
    have GX_named_row := okX_named_row (P := P) (w := w) (base := base) T
    have hl := hps.2.2
    refine ⟨_, (pss_one (ps_try_all sc_answer_l.nd rfl rfl takes0 (fun W pn xe tk _ => (pss_one (ps_set (i := 2) sc_answer_l.nd rfl (Or.inl rfl) (pe_callS GX_named_row (hr.mono (by omega)) rfl T.g_named_row T.F_named_row.kp T.b_named_row (fun σ => passAt tk σ) (pa_cons (pv 0) (pa_cons (pv 1) pa_nil)))))) (.named (i := 3) rfl rfl ⟨rfl, by decide, .inl T.m_Twice⟩ (fun a oe cls d pn hz hf => (pss_one (ps_ret (pe_tup (pa_cons pe_str (pa_cons (pe_xf (exB_ok T.x_Twice).ic.xf ((exB_ok T.x_Twice).no _ (by decide +kernel)) hz hf (pv 3)) (pa_cons (pe_callB (call_isP (exB_ok T.x_Twice).ic hz hf) (by rfl) T.n_isinstance (by decide +kernel) (pa_cons (pv 3) (pa_cons (pe_gcst (v := .ref Z.c_BeatError) rfl ⟨_, T.m_BeatError, rfl⟩) pa_nil))) pa_nil))))))) .nil) (pss_one (ps_ret (pe_tup (pa_cons pe_str (pa_cons (LiI.pe_listItems rfl (pv 2) rfl T.n_list (by decide +kernel)) (pa_cons (pe_callB call_isi (by rfl) T.n_isinstance (by decide +kernel) (pa_cons (pv 2) (pa_cons (pe_bltn (v := .ty "dict") (by rfl) T.n_dict (by decide +kernel) rfl) pa_nil))) pa_nil)))))))), ?_⟩
    walk_at "ss"
    refine ⟨r, n, ps, nm, rfl, gr, gn, hrn, hok, by omega, ?_⟩
    rcases h2 with ⟨hN, k⟩ | ⟨j, z, hD, k⟩
    · refine .inl ⟨hN, fun d H2 hd e2 g2 => ?_⟩
      walk_at "ss"
      refine ⟨d, _, rfl, g2, fun H3 p3 ts e3 hp3 hts hpn g3 hpair => ?_⟩
      walk_at "ss"
      refine isi (.base (.dK (e3 _ _ g2))) kb_dd ?_
      walk_at "ss"
      refine newT fun p4 H4 hp4 e4 g4 => ?_
      walk_at "ss"
      refine k p4 H4 (e2.trans (Ex.trans e3 e4)) (.tup (SqT.of g4) (.cons (.str _) (.cons (.lst (SqL.of (e4 _ _ g3)) (dp_pairs (fun q hq => ?_) (paired_up (fun t q h => e4 _ _ h) hpair))) (.cons (.bl true) .nil))))
      obtain ⟨p, hp, rfl⟩ := List.mem_map.mp hq
      exact (hps.1 p hp).2.flat
    · refine .inr ⟨j, z, hD, fun x H2 hx e2 g2 => ?_⟩
      refine ⟨true, T.fact_exm, fun _ ae hae => ?_, fun z => nomatch z⟩
      walk_at "ss"
      refine ⟨x, _, _, rfl, g2, lk_hd, ?_⟩
      walk_at "ss"
      refine ⟨_, _, true, rfl, .own _, rfl, ⟨x, _, rfl, g2⟩, T.fact_kitTB, ?_⟩
      walk_at "ss"
      refine newT fun p4 H4 hp4 e4 g4 => ?_
      walk_at "ss"
      exact k p4 H4 (e2.trans e4) (.tup (SqT.of g4) (.cons (.str _) (.cons (.str _) (.cons (.bl true) .nil))))
theorem ok_due_l (T : Txt K mg Z) : FnOk P w K mg base CX0 1 Z.f_due_l Z.fd_due_l ["_law_row", "_law_names_here"] (sp_answer_l K) := by
  refine T.F_due_l.ok sc_due_l (fun vs H Q E h => ?_) (fun cdv AA outer s H vs Q E hr h => ?_)
  · obtain ⟨r, n, ps, nm, rfl, _⟩ := h
    rfl
  · obtain ⟨r, n, ps, nm, rfl, gr, gn, hrn, hok, hps, h2⟩ := h
    have hl := hps.2.2
    refine ⟨_, (pss_cons (ps_lock (ps_setLc (i := 2) (own := [("_law_name", 3)]) (g := (gName 3)) (tt := tYes) (te := (tDGet2 (tVar 1) (tVar 3) (tVar 3))) rfl sc_due_l.nd rfl rfl (sw_true rfl rfl rfl (by decide +kernel)) (pi_keys (pv 0)) (blkOk_by (own := [("_law_name", 3)]) (N := N_due_l) (sc := defScope s_due_l) (by decide +kernel)) (fun _ _ _ _ _ => (pg_name (i := 3) sc_due_l.nd rfl (Or.inl rfl))) (fun _ _ _ _ _ => pts_nil) (fun _ _ _ _ _ => (pe_dget2 (hu_of hr) (pv 1) (pv 3) (pv 3) ⟨rfl, rfl, rfl, rfl⟩))))
      (pss_cons (ps_for PassesOwn.never rfl (pi_range1 (by rfl) T.n_range (pa_cons (pe_callB call_len_seq (by rfl) T.n_len (by decide +kernel) (pa_cons (pv 2) pa_nil)) pa_nil)) (pg_name (i := 4) sc_due_l.nd rfl (Or.inl rfl)) (pss_one (ps_if (pt_cmpR op_in_seq (pe_ix ix_list (pv 2) (pv 4) (fun _ _ => rfl)) (pe_slice sl_list (pv 2) po_none (po_some (pv 4))) (by rfl)) (pss_one (ps_ret (pe_tup (pa_cons pe_str (pa_cons (pe_ix ix_list (pv 2) (pv 4) (fun _ _ => rfl)) (pa_cons pe_bl pa_nil)))))) pss_nil)))
      (pss_one (ps_ret (pe_tup (pa_cons pe_str (pa_cons (pe_lock (pe_lc (own := [("_law_name", 3)]) (g := (gName 3)) (tt := tYes) (te := (tTup (tCons (tDGet2 (tVar 1) (tVar 3) (tVar 3)) (tCons (tDGet (tVar 0) (tVar 3)) tNil)))) rfl sc_due_l.nd (pi_keys (pv 0)) (blkOk_by (own := [("_law_name", 3)]) (N := N_due_l) (sc := defScope s_due_l) (by decide +kernel)) (fun _ _ _ _ _ => (pg_name (i := 3) sc_due_l.nd rfl (Or.inl rfl))) (fun _ _ _ _ _ => pts_nil) (fun _ _ _ _ _ => (pe_tup (pa_cons (pe_dget2 (hu_of hr) (pv 1) (pv 3) (pv 3) ⟨rfl, rfl, rfl, rfl⟩) (pa_cons (pe_dget (hu_of hr) (pv 0) (pv 3) (fun _ _ => rfl)) pa_nil)))))) (pa_cons pe_bl pa_nil)))))))), ?_⟩
    walk_at "ss"
    refine c_lock gr trivial fun od => ?_
    walk_at "ss"
    refine ⟨r, od, rfl, .inl ⟨_, upd_same, ?_⟩⟩
    have hrl : (rowK ps).length = ps.length := List.length_map _
    have hnl : (newsOf nm ps).length = ps.length := List.length_map _
    have hall : ∀ l : List (Key × V), l.filter (fun _ => true) = l := fun l => List.filter_eq_self.mpr fun _ _ => rfl
    have gnL : ∀ od u, upd H r (.frz od u) n = some (.dK nm) := fun od u => by rw [upd_ne hrn.symm]; exact gn
    refine lcK (fun _ => true) (fun p y G => ∃ s, p.1 = .inr s ∧ y = .str (fK nm s)) (fun _ _ _ _ _ h => h) upd_same (by omega) (fun i p hp F2 f2 R N hY hN => ?_) (fun ys fl H1 hpair hfl e1 g1 => ?_)
    · obtain ⟨q, rfl⟩ := rowK_mem (List.mem_of_getElem? hp)
      rw [show kV ((Sum.inr q.1 : Key), q.2).1 = V.str q.1 from rfl]
      walk_at "ss"
      refine ⟨isD (f2 _ _ (gnL _ _)), ?_⟩
      walk_at "ss"
      refine ⟨_, dgetK (f2 _ _ (gnL _ _)), ?_⟩
      rw [getD_fK hok]
      exact hY rfl _ _ (Ex.refl _) ⟨q.1, rfl, rfl⟩
    rw [hall] at hpair
    have hys := pair_news (nm := nm) hpair
    subst hys
    walk_at "ss"
    refine ⟨e1 _ _ upd_same, ?_⟩
    have E1 : Ex H (upd H1 r (.dK (rowK ps))) := ex_unlock gr e1
    have nfr : fl ≠ r := by
      intro z
      subst z
      rw [upd_same] at hfl
      cases hfl
    have gl : upd H1 r (.dK (rowK ps)) fl = some (.lst ((newsOf nm ps).map V.str)) := by rw [upd_ne nfr]; exact g1
    generalize upd H1 r (.dK (rowK ps)) = H2 at E1 gl
    have okn : ∀ s ∈ newsOf nm ps, Tx 100 s := fun s hs => by
      obtain ⟨p, hp, rfl⟩ := List.mem_map.mp hs
      exact fK_tx hok (hps.1 p hp).1
    walk_at "ss"
    refine ⟨fl, _, rfl, .inl (SqL.of gl), ?_⟩
    walk_at "ss"
    rw [List.length_map, hnl]
    refine ⟨by omega, by omega, ?_⟩
    refine forR (fun i σ' G => (∃ v3 v4, σ' = [some (.ref r), some (.ref n), some (.ref fl), v3, v4]) ∧ Ex H2 G ∧ ((newsOf nm ps).take i).Nodup ∧ ∀ j s, DupAt (newsOf nm ps) j s → i ≤ j) ⟨⟨_, _, rfl⟩, Ex.refl _, by simp, fun _ _ _ => Nat.zero_le _⟩ ?_ ?_
    · rintro i σ' G hi ⟨⟨v3, v4, rfl⟩, eG, hnd, hdup⟩
      have hi' : i < (newsOf nm ps).length := by rw [hnl]; exact hi
      have hni : (newsOf nm ps)[i]? = some ((newsOf nm ps)[i]'hi') := List.getElem?_eq_getElem hi'
      generalize (newsOf nm ps)[i]'hi' = z0 at hni
      have hat : atI ((newsOf nm ps).map V.str) (i : Int) = some (.str z0) := atI_nat (by rw [List.getElem?_map, hni]; rfl)
      walk_at "ss"
      refine c_ixL (SqL.of (eG _ _ gl)) hat ?_
      walk_at "ss"
      refine ⟨fl, _, rfl, SqL.of (eG _ _ gl), fun q hq => ?_⟩
      rw [cut_take]
      have f1 : Ex G (upd G q (.lst (((newsOf nm ps).take i).map V.str))) := Ex.new hq
      have m1 : upd G q (.lst (((newsOf nm ps).take i).map V.str)) q = some (.lst (((newsOf nm ps).take i).map V.str)) := upd_same
      generalize upd G q (.lst (((newsOf nm ps).take i).map V.str)) = G1 at f1 m1
      refine c_in (.inl (SqL.of m1)) rfl (flat_strs _) ?_
      rw [inV_str]
      walk_at "ss"
      have eG1 := eG.trans f1
      refine if_cs (fun hc => ?_) (fun hc => ?_)
      · have hm : z0 ∈ (newsOf nm ps).take i := by simpa using hc
        walk_at "ss"
        refine c_ixL (SqL.of (eG1 _ _ gl)) hat ?_
        walk_at "ss"
        refine newT fun p4 H4 hp4 e4 g4 => ?_
        walk_at "ss"
        rcases h2 with ⟨hN, _⟩ | ⟨j, z, hD, k⟩
        · exact absurd rfl (nodup_at hN hni hm (Nat.le_refl _))
        · have hij := hdup j z hD
          have hij2 : i = j := by
            rcases Nat.lt_or_ge i j with hlt | hge
            · have h1 : ((newsOf nm ps).take j)[i]? = some z0 := by rw [List.getElem?_take_of_lt hlt]; exact hni
              have h2 : z0 ∈ ((newsOf nm ps).take j).take i := by rw [List.take_take, Nat.min_eq_left (by omega)]; exact hm
              exact absurd rfl (nodup_at hD.2.2 h1 h2 (Nat.le_refl _))
            · omega
          subst hij2
          have hz : z0 = z := Option.some.inj (hni.symm.trans hD.1)
          subst hz
          exact k p4 H4 (E1.trans (eG1.trans e4)) (.tup (SqT.of g4) (.cons (.str _) (.cons (.str _) (.cons (.bl true) .nil))))
      · have hm : z0 ∉ (newsOf nm ps).take i := by
          intro hm
          have : ((newsOf nm ps).take i).contains z0 = true := by simpa using hm
          rw [hc] at this
          cases this
        walk_at "ss"
        refine ⟨⟨_, _, rfl⟩, eG1, nodup_take hnd hni hm, fun j z hD => ?_⟩
        have hij := hdup j z hD
        rcases Nat.lt_or_ge i j with hlt | hge
        · exact hlt
        · have hij2 : i = j := by omega
          subst hij2
          have hz : z0 = z := Option.some.inj (hni.symm.trans hD.1)
          exact absurd (by rw [hz]; exact hD.2.1) hm
    · rintro σ' G ⟨⟨v3, v4, rfl⟩, eG, hnd, hdup⟩
      rcases h2 with ⟨hN, k⟩ | ⟨j, z, hD, k⟩
      · have E2 := E1.trans eG
        walk_at "ss"
        refine c_lockE (E2 _ _ gr) trivial fun od2 => ?_
        walk_at "ss"
        refine ⟨r, od2, rfl, .inl ⟨_, upd_same, ?_⟩⟩
        have gnM : ∀ u, upd G r (.frz od2 u) n = some (.dK nm) := fun u => by rw [upd_ne hrn.symm]; exact E2 _ _ gn
        refine lcK (fun _ => true) (fun p y F => ∃ s a, p.1 = .inr s ∧ y = .ref a ∧ F a = some (.tup [.str (fK nm s), p.2])) (fun p y F F2 hn ⟨s, a, h1, h2, h3⟩ => ⟨s, a, h1, h2, hn _ _ (fun _ z => by cases z) h3⟩) upd_same (by omega) (fun i p hp F2 f2 R N hY hN => ?_) (fun ys tl' H3 hpair hfl e3 g3 => ?_)
        · obtain ⟨q, rfl⟩ := rowK_mem (List.mem_of_getElem? hp)
          have hvq : valV (rowK ps) (.inr q.1) = some q.2 := valV_mem (rowK_nodup hps.2.1) (List.mem_of_getElem? hp)
          rw [show kV ((Sum.inr q.1 : Key), q.2).1 = V.str q.1 from rfl]
          walk_at "ss"
          refine ⟨isD (f2 _ _ (gnM _)), ?_⟩
          walk_at "ss"
          refine ⟨_, dgetK (f2 _ _ (gnM _)), ?_⟩
          rw [getD_fK hok]
          walk_at "ss"
          refine ⟨r, _, rfl, by rw [← hvq]; exact dgetZ (f2 _ _ upd_same), ?_⟩
          walk_at "ss"
          refine newT fun p4 H4 hp4 e4 g4 => ?_
          exact hY rfl _ _ e4 ⟨q.1, p4, rfl, rfl, g4⟩
        rw [hall] at hpair
        refine ⟨e3 _ _ upd_same, ?_⟩
        have E3 : Ex G (upd H3 r (.dK (rowK ps))) := ex_unlock (E2 _ _ gr) e3
        have ntr : tl' ≠ r := by
          intro z
          subst z
          rw [upd_same] at hfl
          cases hfl
        have gt : upd H3 r (.dK (rowK ps)) tl' = some (.lst ys) := by rw [upd_ne ntr]; exact g3
        have hT3 : ∀ a xs, H3 a = some (.tup xs) → upd H3 r (.dK (rowK ps)) a = some (.tup xs) := fun a xs h => by
          rw [upd_ne (ne_of h (e3 _ _ upd_same) (fun z => by cases z))]
          exact h
        generalize upd H3 r (.dK (rowK ps)) = H5 at E3 gt hT3
        walk_at "ss"
        refine newT fun p6 H6 hp6 e6 g6 => ?_
        walk_at "ss"
        refine k p6 H6 (E2.trans (E3.trans e6)) (.tup (SqT.of g6) (.cons (.str _) (.cons (.lst (SqL.of (e6 _ _ gt)) ?_) (.cons (.bl true) .nil))))
        exact dp_told (fun a xs h => e6 _ _ (hT3 a xs h)) (fun q hq => (hps.1 q hq).2.flat) hpair
      · have h1 := hdup j z hD
        have h3 := (List.getElem?_eq_some_iff.mp hD.1).1
        omega

open TL (tl)
/-! the suites of a statement -/
def suiB (s : Stmt) : List Stmt := match s with
  | .For _ _ b _ _ => b
  | .While _ b _ _ => b
  | .If _ b _ _ => b
  | .Try b _ _ _ _ => b
  | _ => []
def suiE (s : Stmt) : List Stmt := match s with
  | .For _ _ _ b _ => b
  | .While _ _ b _ => b
  | .If _ _ b _ => b
  | .Try _ _ b _ _ => b
  | _ => []

/-! ### the law -/
def sp_law (K : PySem.W.Frag) : Sp := fun vs H Q _ => ∃ (a : Addr) (ns : List Int), vs = [.ref a] ∧ SqL K H a (ns.map V.int) ∧ ns.length ≤ 63 ∧ ∀ H', Q (.bl true) H'
theorem NmOk.ok {nm : List (Key × V)} (h : NmOk nm) : ∀ p ∈ nm, okV p.2 = true := fun p hp => by
  obtain ⟨s, s', rfl, _, h2⟩ := h.2 p hp
  exact okT_V h2.1
theorem ok_val {kv : List (Key × V)} (h : ∀ p ∈ kv, okV p.2 = true) : ∀ k u, valV kv k = some u → okV u = true := fun k u hk => h _ (valV_mem0 hk)
theorem rowK_ok {ps : List (Str × V)} (h : RowsOk ps) : ∀ p ∈ rowK ps, okV p.2 = true := fun p hp => by
  obtain ⟨q, hq, rfl⟩ := List.mem_map.mp hp
  exact (h.1 q hq).2.ok
theorem ans_ex (nm : List (Key × V)) (ps : List (Str × V)) (hok : NmOk nm) (hps : RowsOk ps) : ∃ d : PyData, RpOk 5 10000 d ∧ ∀ (K : PySem.W.Frag) (H : Hp) (Q : VK), (∀ p H2, Ex H H2 → Dp K H2 (.ref p) d → Q (.ref p) H2) → AnsP K nm ps H Q := by
  rcases nodup_or_dup (newsOf nm ps) with h | ⟨j, s, hD⟩
  · refine ⟨_, ansT_rp (ps := ps.map fun p => (fK nm p.1, p.2)) (fun p hp => ?_) (by rw [List.length_map]; exact hps.2.2), fun K H Q k => .inl ⟨h, k⟩⟩
    obtain ⟨q, hq, rfl⟩ := List.mem_map.mp hp
    exact ⟨fK_tx hok (hps.1 q hq).1, (hps.1 q hq).2⟩
  · refine ⟨_, ansW_rp (s := s) ?_, fun K H Q k => .inr ⟨j, s, hD, k⟩⟩
    obtain ⟨p, hp, rfl⟩ := List.mem_map.mp (List.mem_of_getElem? hD.1)
    exact fK_tx hok (hps.1 p hp).1
/-- what the rest of a turn asks -/
def SpcTail (t : TS) : Prop := ∀ (nx : St → Hp → Prop) (rt : VK) (bk ct : St → Hp → Prop) (G : Hp) (v1 v6 v7 v8 v9 : Option V) (a b nl n r : Addr) (ns : List Str) (nm : List (Key × V)) (ps : List (Str × V)), BoxAt G b → G nl = some (.lst (ns.map V.str)) → ns.length ≤ 12 → (∀ s ∈ ns, Tx 100 s) → G n = some (.dK nm) → NmOk nm → nm.length ≤ 30 → G r = some (.dK (rowK ps)) → RowsOk ps → r ≠ n →
  (∀ (v6 v7 v8 v9 : Option V) (G2 : Hp), ExB b G G2 → BoxAt G2 b → nx [some (.ref a), v1, some (.ref b), some (.ref nl), some (.ref n), some (.ref r), v6, v7, v8, v9] G2) → t ⟨nx, rt, bk, ct⟩ [some (.ref a), v1, some (.ref b), some (.ref nl), some (.ref n), some (.ref r), v6, v7, v8, v9] G
theorem blk_tail (T : Txt K mg Z) {cdv : Value} {AA : Around} {outer : List Env} {s : Shared} {H0 : Hp} {E : XK} (hgd : AA.guards = some []) (hr : Room 9 (AA.deeper (PyProof.Rows.envOfC "law" (defScope s_law) s.heap.objs.size Z.f_law cdv))) :
    ∃ t, PSs (cxOf CX0 P w K mg base N_law "law" (defScope s_law) Z.f_law cdv AA outer s H0 E).nox ((suiB ((defBody s_law).getD 0 (.Pass ⟨0, 0, 0, 0⟩))).drop 5) t ∧ SpcTail t := by
  have G_take_l := ok_take_l (P := P) (w := w) (base := base) T
  have G_mixed_l := ok_mixed_l (P := P) (w := w) (base := base) T
  have G_answer_l := ok_answer_l (P := P) (w := w) (base := base) T
  have G_due_l := ok_due_l (P := P) (w := w) (base := base) T
  have G_named_clock := ok_named_clock (P := P) (w := w) (base := base) T
  refine ⟨_, (pss_cons (ps_set (i := 7) sc_law.nd rfl (Or.inl rfl) (pe_lst (pa_cons (pe_callTy call_dictD (by rfl) T.n_dict (by decide +kernel) (pa_cons (pv 5) pa_nil)) (pa_cons (pe_callTy call_dictD (by rfl) T.n_dict (by decide +kernel) (pa_cons (pv 4) pa_nil)) pa_nil))))
      (pss_cons (ps_if (PW.pt (pw_or (pt_cmpR op_ne (pe_callB (call_reprD hgd hr) (by rfl) T.n_repr (by decide +kernel) (pa_cons (pe_call G_answer_l (hr.mono (by omega)) rfl T.g_answer_l T.F_answer_l.kp T.b_answer_l .nil pass0 (pa_cons (pe_ix ix_list (pv 7) pe_int (fun _ _ => rfl)) (pa_cons (pe_ix ix_list (pv 7) pe_int (fun _ _ => rfl)) pa_nil))) pa_nil)) (pe_callB (call_reprD hgd hr) (by rfl) T.n_repr (by decide +kernel) (pa_cons (pe_call G_due_l (hr.mono (by omega)) rfl T.g_due_l T.F_due_l.kp T.b_due_l .nil pass0 (pa_cons (pv 5) (pa_cons (pv 4) pa_nil))) pa_nil)) (nomark _)) (pw_or1 (pt_cmpR (op_neLD (hu68 hr)) (pv 7) (pe_lst (pa_cons (pv 5) (pa_cons (pv 4) pa_nil))) (nomark _))))) (pss_one (ps_ret pe_bl)) pss_nil)
      (pss_cons (ps_set (i := 8) sc_law.nd rfl (Or.inl rfl) (pe_callTy call_tuple_of (by rfl) T.n_tuple (by decide +kernel) (pa_cons (pe_slice sl_list (pe_call G_mixed_l (hr.mono (by omega)) rfl T.g_mixed_l T.F_mixed_l.kp T.b_mixed_l .nil pass0 (pa_cons (pv 2) (pa_cons (pv 3) pa_nil))) po_none (po_some (pe_call G_take_l (hr.mono (by omega)) rfl T.g_take_l T.F_take_l.kp T.b_take_l .nil pass0 (pa_cons (pv 2) (pa_cons pe_int pa_nil))))) pa_nil)))
      (pss_cons (ps_set (i := 9) sc_law.nd rfl (Or.inl rfl) (pe_call G_named_clock (hr.mono (by omega)) rfl T.g_named_clock T.F_named_clock.kp T.b_named_clock .nil pass0 (pa_cons (pv 8) (pa_cons (pe_ix ix_list (pv 7) pe_int (fun _ _ => rfl)) pa_nil))))
      (pss_one (ps_if (PW.pt (pw_or (pt_not (pt_val (pe_callB call_isi (by rfl) T.n_isinstance (by decide +kernel) (pa_cons (pv 9) (pa_cons (pe_bltn (v := .ty "tuple") (by rfl) T.n_tuple (by decide +kernel) rfl) pa_nil))))) (pw_or1 (pt_cmpR (op_neD hr.units) (pv 9) (pe_callTy call_tuple_of (by rfl) T.n_tuple (by decide +kernel) (pa_cons (pe_lc (own := [("_law_name", 6)]) (g := (gName 6)) (tt := tYes) (te := (tDGet2 (tVar 4) (tVar 6) (tVar 6))) rfl sc_law.nd (pi_tup (pv 8)) (blkOk_by (own := [("_law_name", 6)]) (N := N_law) (sc := defScope s_law) (by decide +kernel)) (fun _ _ _ _ _ => (pg_name (i := 6) sc_law.nd rfl (Or.inl rfl))) (fun _ _ _ _ _ => pts_nil) (fun _ _ _ _ _ => (pe_dget2 (hu_of hr) (pv 4) (pv 6) (pv 6) ⟨rfl, rfl, rfl, rfl⟩))) pa_nil)) (nomark _))))) (pss_one (ps_ret pe_bl)) pss_nil)))))), ?_⟩
  intro nx rt bk ct G v1 v6 v7 v8 v9 a b nl n r ns nm ps hB gnl hnl htx gn hok hml gr hps hrn kk
  obtain ⟨d, hrp, hans⟩ := ans_ex nm ps hok hps
  walk_at "ss"
  refine ⟨r, _, rfl, .inl gr, fun c1 hc1 => ?_⟩
  have e1 : Ex G (upd G c1 (.dK (rowK ps))) := Ex.new hc1
  have g1 : upd G c1 (.dK (rowK ps)) c1 = some (.dK (rowK ps)) := upd_same
  generalize upd G c1 (.dK (rowK ps)) = G1 at e1 g1
  walk_at "ss"
  refine ⟨n, _, rfl, .inl (e1 _ _ gn), fun c2 hc2 => ?_⟩
  have e2 : Ex G1 (upd G1 c2 (.dK nm)) := Ex.new hc2
  have g2 : upd G1 c2 (.dK nm) c2 = some (.dK nm) := upd_same
  generalize upd G1 c2 (.dK nm) = G2 at e2 g2
  have n12 : c1 ≠ c2 := ne_of_none g1 hc2
  walk_at "ss"
  refine newL fun hl G3 hhl e3 g3 => ?_
  have e03 := e1.trans (e2.trans e3)
  walk_at "ss"
  refine c_ixL (SqL.of g3) rfl ?_
  walk_at "ss"
  refine c_ixL (SqL.of g3) rfl ?_
  walk_at "ss"
  refine ⟨c1, c2, ps, nm, rfl, (e2.trans e3) _ _ g1, e3 _ _ g2, n12, hok, hps, hans _ _ _ fun p4 G4 e4 h4 => ?_⟩
  walk_at "ss"
  refine c_repr h4 hrp ?_
  walk_at "ss"
  have e04 := e03.trans e4
  refine ⟨r, n, ps, nm, rfl, e04 _ _ gr, e04 _ _ gn, hrn, hok, hps, hans _ _ _ fun p5 G5 e5 h5 => ?_⟩
  walk_at "ss"
  refine c_repr h5 hrp ?_
  walk_at "ss"
  rw [decide_eq_true rfl]
  walk_at "ss"
  refine newL fun ol G6 hol e6 g6 => ?_
  have e06 := e04.trans (e5.trans e6)
  have e36 := e4.trans (e5.trans e6)
  have n1r : c1 ≠ r := (ne_of_none gr hc1).symm
  have n2n : c2 ≠ n := (ne_of_none (e1 _ _ gn) hc2).symm
  refine ⟨hl, ol, _, _, rfl, rfl, e36 _ _ g3, g6, .cons ⟨c1, r, _, _, rfl, rfl, n1r, (e2.trans (e3.trans e36)) _ _ g1, e06 _ _ gr, rowK_ok hps, ok_val (rowK_ok hps), eqK_refl (rowK_nodup hps.2.1) (rowK_ok hps)⟩ (.cons ⟨c2, n, _, _, rfl, rfl, n2n, (e3.trans e36) _ _ g2, e06 _ _ gn, hok.ok, ok_val hok.ok, eqK_refl hok.1 hok.ok⟩ .nil), ?_⟩
  walk_at "ss"
  have nhb : hl ≠ b := by
    obtain ⟨o, ho⟩ := (hB.up (e1.trans e2)).some
    exact (ne_of_none ho hhl).symm
  have n2b : c2 ≠ b := by
    obtain ⟨o, ho⟩ := (hB.up e1).some
    exact (ne_of_none ho hc2).symm
  have nnb : n ≠ b := box_ne hB gn (fun _ _ _ z => by cases z)
  have gn6 := e06 _ _ gn
  have gc6 := (e3.trans e36) _ _ g2
  have gh6 := e36 _ _ g3
  refine ⟨b, nl, ns, rfl, hB.up e06, e06 _ _ gnl, by omega, fun s hs => (htx s hs).1, fun ms ml G7 hperm hml x7 b7 gm => ?_⟩
  walk_at "ss"
  refine ⟨b, 5, rfl, b7, by decide, by decide, fun d8 G8 h80 h81 x8 b8 => ?_⟩
  obtain ⟨j, rfl⟩ := Int.eq_ofNat_of_zero_le h80
  have gm8 := nb_strs b7 gm x8
  have x68 := x7.trans x8
  walk_at "ss"
  refine ⟨ml, _, rfl, SqL.of gm8, fun q hq => ?_⟩
  rw [cut_take]
  have f9 : Ex G8 (upd G8 q (.lst ((ms.take j).map V.str))) := Ex.new hq
  have g9 : upd G8 q (.lst ((ms.take j).map V.str)) q = some (.lst ((ms.take j).map V.str)) := upd_same
  generalize upd G8 q (.lst ((ms.take j).map V.str)) = G9 at f9 g9
  walk_at "ss"
  refine ⟨_, _, rfl, .inl ⟨SqL.of g9, fun tq htq => ?_⟩⟩
  have f10 : Ex G9 (upd G9 tq (.tup ((ms.take j).map V.str))) := Ex.new htq
  have g10 : upd G9 tq (.tup ((ms.take j).map V.str)) tq = some (.tup ((ms.take j).map V.str)) := upd_same
  generalize upd G9 tq (.tup ((ms.take j).map V.str)) = G10 at f10 g10
  have f810 := f9.trans f10
  have htk : (ms.take j).length ≤ 12 := by rw [List.length_take, hperm.length_eq]; omega
  have htm : ∀ s ∈ ms.take j, Tx 100 s := fun s hs => htx s (hperm.mem_iff.mp (List.mem_of_mem_take hs))
  generalize ms.take j = cs at g9 g10 htk htm
  walk_at "ss"
  refine c_ixL (SqL.of (f810 _ _ (x68 _ _ nhb gh6))) rfl ?_
  walk_at "ss"
  refine ⟨tq, c2, cs, nm, rfl, g10, f810 _ _ (x68 _ _ n2b gc6), hok, by omega, fun pc G11 hpc e11 g11 => ?_⟩
  walk_at "ss"
  refine isi (ty_tup g11) kb_tt ?_
  walk_at "ss"
  have gn11 := (f810.trans e11) _ _ (x68 _ _ nnb gn6)
  have gc11 := e11 _ _ g10
  refine ⟨⟨_, SqT.of gc11⟩, ?_⟩
  refine lcTN (fun i y _ => ((cs.map (fK nm)).map V.str)[i]? = some y) (fun _ _ _ _ _ h => h) (SqT.of gc11) (by rw [List.length_map]; omega) (fun i x hx H2 e2 R N hR => ?_) (fun ys p H2 hyl hy hp e2 g2 => ?_)
  · rw [List.getElem?_map] at hx
    obtain ⟨s, hs, rfl⟩ := Option.map_eq_some_iff.mp hx
    walk_at "ss"
    refine ⟨isD (e2 _ _ gn11), ?_⟩
    walk_at "ss"
    refine ⟨_, dgetK (e2 _ _ gn11), ?_⟩
    rw [getD_fK hok]
    exact hR _ _ (Ex.refl _) (by rw [List.getElem?_map, List.getElem?_map, hs]; rfl)
  have hys := list_of_ix (by rw [hyl, List.length_map, List.length_map, List.length_map]) hy
  subst hys
  walk_at "ss"
  refine ⟨_, _, rfl, .inl ⟨SqL.of g2, fun l hl' => ?_⟩⟩
  have f12 : Ex H2 (upd H2 l (.tup ((cs.map (fK nm)).map V.str))) := Ex.new hl'
  have okc : ((cs.map (fK nm)).map V.str).all okV = true := by
    rw [List.all_eq_true]
    intro x hx
    obtain ⟨s, hs, rfl⟩ := List.mem_map.mp hx
    obtain ⟨z, hz, rfl⟩ := List.mem_map.mp hs
    exact okT_V (fK_tx hok (htm z hz)).1
  refine c_neT (SqT.of (f12 _ _ (e2 _ _ g11))) (SqT.of upd_same) okc okc ?_
  rw [eqL_refl (okL_flat okc)]
  walk_at "ss"
  have f812 := f810.trans (e11.trans (Ex.trans e2 f12))
  exact kk _ _ _ _ _ ((ExB.of e06).trans (x68.trans (ExB.of f812))) (b8.up f812)
def RowKv (n : Nat) (kv : List (Key × V)) : Prop := (∀ p ∈ kv, ∃ s, p.1 = .inr s ∧ Tx 100 s ∧ Fl p.2) ∧ (kv.map (·.1)).Nodup ∧ kv.length ≤ n
theorem RowKv.put {n : Nat} {kv : List (Key × V)} (h : RowKv n kv) {s : Str} {v : V} (hs : Tx 100 s) (hv : Fl v) : RowKv (n + 1) (putK kv (.inr s) v) := by
  refine ⟨fun p hp => ?_, putK_nodup h.2.1, Nat.le_trans (putK_len kv _ _) (by have := h.2.2; omega)⟩
  unfold putK at hp
  split at hp
  · obtain ⟨q, hq, rfl⟩ := List.mem_map.mp hp
    split
    · rename_i e
      exact ⟨s, e, hs, hv⟩
    · exact h.1 q hq
  · rcases List.mem_append.mp hp with hp | hp
    · exact h.1 p hp
    · have : p = (.inr s, v) := by simpa using hp
      rw [this]
      exact ⟨s, rfl, hs, hv⟩
theorem RowKv.rows {kv : List (Key × V)} (h : RowKv 12 kv) : ∃ ps, kv = rowK ps ∧ RowsOk ps := by
  obtain ⟨h1, h2, h3⟩ := h
  have key : ∀ kv : List (Key × V), (∀ p ∈ kv, ∃ s, p.1 = .inr s ∧ Tx 100 s ∧ Fl p.2) → ∃ ps, kv = rowK ps := by
    intro kv
    induction kv with
    | nil => exact fun _ => ⟨[], rfl⟩
    | cons p r ih =>
      intro h
      obtain ⟨ps, rfl⟩ := ih fun q hq => h q (List.mem_cons_of_mem _ hq)
      obtain ⟨s, hs, _⟩ := h p List.mem_cons_self
      refine ⟨(s, p.2) :: ps, ?_⟩
      show p :: rowK ps = (.inr s, p.2) :: rowK ps
      rw [← hs]
  obtain ⟨ps, rfl⟩ := key kv h1
  refine ⟨ps, rfl, fun p hp => ?_, ?_, ?_⟩
  · obtain ⟨s, hs, ht, hf⟩ := h1 (.inr p.1, p.2) (List.mem_map.mpr ⟨p, hp, rfl⟩)
    have : p.1 = s := Sum.inr.inj hs
    rw [this]
    exact ⟨ht, hf⟩
  · have e : (rowK ps).map (·.1) = (ps.map Prod.fst).map (Sum.inr : Str → Key) := by
      unfold rowK
      rw [List.map_map, List.map_map]
      rfl
    rw [e] at h2
    unfold List.Nodup at h2 ⊢
    rw [List.pairwise_map] at h2
    exact h2.imp fun hne e => hne (by rw [e])
  · rw [← show (rowK ps).length = ps.length from List.length_map _]
    exact h3
theorem val5 {d1 d2 d5 : Int} (h10 : 0 ≤ d1) (h11 : d1 < 3) (h20 : 0 ≤ d2) (h21 : d2 < 1000000000) (h0 : 0 ≤ d5) (h1 : d5 < 5) : ∃ v, atI [.int d1, .bl true, .bl false, .int (0 - d2), .non] d5 = some v ∧ Fl v := by
  have : d5 = 0 ∨ d5 = 1 ∨ d5 = 2 ∨ d5 = 3 ∨ d5 = 4 := by omega
  rcases this with rfl | rfl | rfl | rfl | rfl
  · exact ⟨_, rfl, .inr (.inr ⟨_, rfl, by omega⟩)⟩
  · exact ⟨_, rfl, .inr (.inl ⟨_, rfl⟩)⟩
  · exact ⟨_, rfl, .inr (.inl ⟨_, rfl⟩)⟩
  · exact ⟨_, rfl, .inr (.inr ⟨_, rfl, by omega⟩)⟩
  · exact ⟨_, rfl, .inl rfl⟩
theorem ok_law (T : Txt K mg Z)  : FnG P w K mg base CX0 (10) Z.f_law Z.fd_law ["_law_script"] (sp_law K) := by
  have G_cell_at_l := ok_cell_at_l (P := P) (w := w) (base := base) T
  have G_box_l := ok_box_l (P := P) (w := w) (base := base) T
  have G_take_l := ok_take_l (P := P) (w := w) (base := base) T
  have G_names_l := ok_names_l (P := P) (w := w) (base := base) T
  have G_pairs_l := ok_pairs_l (P := P) (w := w) (base := base) T
  refine T.F_law.okG sc_law (fun vs H Q E h => ?_) (fun cdv AA outer s H vs Q E hgd hr h => ?_)
  · obtain ⟨a, ns, rfl, _⟩ := h
    rfl
  · obtain ⟨a, ns, rfl, hS, hl, k⟩ := h
    obtain ⟨t_tail, d_tail, h_tail⟩ := blk_tail (P := P) (w := w) (base := base) T (cdv := cdv) (outer := outer) (s := s) (H0 := H) (E := E) hgd hr
    refine ⟨_, (pss_cons (ps_for PassesOwn.never rfl (pi_range1 (by rfl) T.n_range (pa_cons (pe_callB (call_max2 rfl) (by rfl) T.n_max (by decide +kernel) (pa_cons pe_int (pa_cons (pe_callB (call_min2 rfl) (by rfl) T.n_min (by decide +kernel) (pa_cons (pe_callB call_len_seq (by rfl) T.n_len (by decide +kernel) (pa_cons (pv 0) pa_nil)) (pa_cons pe_int pa_nil))) pa_nil))) pa_nil)) (pg_name (i := 1) sc_law.nd rfl (Or.inl rfl)) (pss_cons (ps_set (i := 2) sc_law.nd rfl (Or.inl rfl) (pe_call G_box_l (hr.mono (by omega)) rfl T.g_box_l T.F_box_l.kp T.b_box_l .nil pass0 (pa_cons (pe_call G_cell_at_l (hr.mono (by omega)) rfl T.g_cell_at_l T.F_cell_at_l.kp T.b_cell_at_l .nil pass0 (pa_cons (pv 0) (pa_cons (pv 1) pa_nil))) pa_nil)))
      (pss_cons (ps_set (i := 3) sc_law.nd rfl (Or.inl rfl) (pe_slice sl_list (pe_call G_names_l (hr.mono (by omega)) rfl T.g_names_l T.F_names_l.kp T.b_names_l .nil pass0 (pa_cons (pv 2) (pa_cons pe_int pa_nil))) po_none (po_some (pe_call G_take_l (hr.mono (by omega)) rfl T.g_take_l T.F_take_l.kp T.b_take_l .nil pass0 (pa_cons (pv 2) (pa_cons pe_int pa_nil))))))
      (pss_cons (ps_set (i := 4) sc_law.nd rfl (Or.inr rfl) (pe_call G_pairs_l (hr.mono (by omega)) rfl T.g_pairs_l T.F_pairs_l.kp T.b_pairs_l .nil pass0 (pa_cons (pv 2) (pa_cons (pv 3) pa_nil))))
      (pss_cons (ps_set (i := 5) sc_law.nd rfl (Or.inl rfl) pe_dnewK)
      (pss_cons (ps_for PassesOwn.never rfl (pi_list (pv 3)) (pg_name (i := 6) sc_law.nd rfl (Or.inl rfl)) (pss_one (ps_dput (hu_of hr) (pv 5) (pv 6) (pe_ix ix_list (pe_lst (pa_cons (pe_call G_take_l (hr.mono (by omega)) rfl T.g_take_l T.F_take_l.kp T.b_take_l .nil pass0 (pa_cons (pv 2) (pa_cons pe_int pa_nil))) (pa_cons pe_bl (pa_cons pe_bl (pa_cons (pe_op op_sub pe_int (pe_call G_take_l (hr.mono (by omega)) rfl T.g_take_l T.F_take_l.kp T.b_take_l .nil pass0 (pa_cons (pv 2) (pa_cons (pe_op op_pow pe_int pe_int) pa_nil)))) (pa_cons pe_non pa_nil)))))) (pe_call G_take_l (hr.mono (by omega)) rfl T.g_take_l T.F_take_l.kp T.b_take_l .nil pass0 (pa_cons (pv 2) (pa_cons pe_int pa_nil))) (fun _ _ => rfl)) rfl)))
      d_tail))))))
      (pss_one (ps_ret pe_bl))), ?_⟩
    walk_at "ss"
    refine ⟨_, _, rfl, .inl hS, ?_⟩
    walk_at "ss"
    refine ⟨_, _, rfl, ?_⟩
    walk_at "ss"
    refine ⟨_, _, rfl, ?_⟩
    walk_at "ss"
    refine ⟨by split <;> split <;> omega, by split <;> split <;> omega, ?_⟩
    refine forR (fun i σ' G => (∃ v1 v2 v3 v4 v5 v6 v7 v8 v9, σ' = [some (.ref a), v1, v2, v3, v4, v5, v6, v7, v8, v9]) ∧ Ex H G) ⟨⟨_, _, _, _, _, _, _, _, _, rfl⟩, Ex.refl _⟩ ?_ ?_
    · rintro i σ' G hi ⟨⟨v1, v2, v3, v4, v5, v6, v7, v8, v9, rfl⟩, e⟩
      walk_at "ss"
      refine ⟨_, _, _, rfl, ex_l e hS, by omega, fun n => ?_⟩
      walk_at "ss"
      refine ⟨_, rfl, fun b G1 hb f1 hB => ?_⟩
      have hbH : H b = none := fresh_back e hb
      walk_at "ss"
      refine ⟨b, 12, rfl, hB, by decide, by decide, fun nms nl G2 hnl hgn hnlf x2 b2 gnl => ?_⟩
      walk_at "ss"
      refine ⟨b, 13, rfl, b2, by decide, by decide, fun d3 G3 h30 h31 x3 b3 => ?_⟩
      obtain ⟨j, rfl⟩ := Int.eq_ofNat_of_zero_le h30
      walk_at "ss"
      refine ⟨nl, _, rfl, SqL.of (nb_strs b2 gnl x3), fun q hq => ?_⟩
      rw [cut_take]
      have f4 : Ex G3 (upd G3 q (.lst ((nms.take j).map V.str))) := Ex.new hq
      have g4 : upd G3 q (.lst ((nms.take j).map V.str)) q = some (.lst ((nms.take j).map V.str)) := upd_same
      generalize upd G3 q (.lst ((nms.take j).map V.str)) = G4 at f4 g4
      have hcl : (nms.take j).length ≤ 12 := by rw [List.length_take]; omega
      have hct : ∀ s ∈ nms.take j, Tx 100 s := fun s hs => hgn s (List.mem_of_mem_take hs)
      generalize nms.take j = cs at g4 hcl hct
      walk_at "ss"
      refine ⟨b, q, cs, rfl, b3.up f4, g4, hcl, hct, fun nm nd G5 hok hml hnd x5 b5 gn => ?_⟩
      have gq5 := nb_strs (b3.up f4) g4 x5
      walk_at "ss"
      intro rd hrd
      have f6 : Ex G5 (upd G5 rd (.dK [])) := Ex.new hrd
      have g6 : upd G5 rd (.dK []) rd = some (.dK []) := upd_same
      generalize upd G5 rd (.dK []) = G6 at f6 g6
      have nrn : rd ≠ nd := (ne_of_none gn hrd).symm
      have X5 : ExB b G G5 := (ExB.of f1).trans (x2.trans (x3.trans ((ExB.of f4).trans x5)))
      have nrb : rd ≠ b := by
        obtain ⟨o, ho⟩ := b5.some
        exact (ne_of_none ho hrd).symm
      walk_at "ss"
      refine ⟨⟨_, SqL.of (f6 _ _ gq5)⟩, forL (xs := cs.map V.str) (fun m σ' G' => (∃ v1 v6 v7 v8 v9, σ' = [some (.ref a), v1, some (.ref b), some (.ref q), some (.ref nd), some (.ref rd), v6, v7, v8, v9]) ∧ ExB b G5 G' ∧ BoxAt G' b ∧ G' q = some (.lst (cs.map V.str)) ∧ G' nd = some (.dK nm) ∧ ∃ kv, G' rd = some (.dK kv) ∧ RowKv m kv) ⟨⟨_, _, _, _, _, rfl⟩, ExB.of f6, b5.up f6, f6 _ _ gq5, f6 _ _ gn, [], g6, (fun p hp => by cases hp), List.nodup_nil, Nat.le_refl _⟩ (fun m σ' G' _ q => SqL.of q.2.2.2.1) ?_ ?_⟩
      · rintro m x σ' G' hx ⟨⟨v1, v6, v7, v8, v9, rfl⟩, xG, bG, gq, gnd, kv, grd, hkv⟩
        rw [List.getElem?_map] at hx
        obtain ⟨s1, hs1, rfl⟩ := Option.map_eq_some_iff.mp hx
        have hst := hct s1 (List.mem_of_getElem? hs1)
        have hml2 := (List.getElem?_eq_some_iff.mp hs1).1
        have nnb : nd ≠ b := box_ne bG gnd (fun _ _ _ z => by cases z)
        walk_at "ss"
        refine ⟨b, 3, rfl, bG, by decide, by decide, fun d1 F1 h10 h11 y1 c1 => ?_⟩
        walk_at "ss"
        refine c_I ⟨by decide, by decide, by decide⟩ ?_
        walk_at "ss"
        refine ⟨b, _, rfl, c1, by decide, by decide, fun d2 F2 h20 h21 y2 c2 => ?_⟩
        walk_at "ss"
        refine newL fun vl F3 hvl y3 gv => ?_
        walk_at "ss"
        refine ⟨b, 5, rfl, c2.up y3, by decide, by decide, fun d5 F4 h50 h51 y4 c4 => ?_⟩
        have nvb : vl ≠ b := by
          obtain ⟨o, ho⟩ := c2.some
          exact (ne_of_none ho hvl).symm
        obtain ⟨w0, hw, hfl⟩ := val5 (d2 := d2) h10 h11 h20 h21 h50 h51
        refine c_ixL (SqL.of (y4 _ _ nvb gv)) hw ?_
        walk_at "ss"
        have Y4 : ExB b G' F4 := y1.trans (y2.trans ((ExB.of y3).trans y4))
        have grd4 := Y4 _ _ nrb grd
        have hkl := hkv.2.2
        refine ⟨rd, _, rfl, .inl ⟨kv, .inr s1, grd4, rfl, Evl.sz_lt (by omega), rfl⟩, ?_⟩
        walk_at "ss"
        exact ⟨⟨_, _, _, _, _, rfl⟩, exB_put (xG.trans Y4) hrd, box_put c4 nrb.symm, strs_nd (nb_strs bG gq Y4) grd4, by rw [upd_ne nrn.symm]; exact Y4 _ _ nnb gnd, _, upd_same, hkv.put hst hfl⟩
      · rintro σ' G' ⟨⟨v1, v6, v7, v8, v9, rfl⟩, xG, bG, gq, gnd, kv, grd, hkv⟩
        rw [List.length_map] at hkv
        obtain ⟨ps, rfl, hps⟩ := RowKv.rows (⟨hkv.1, hkv.2.1, by have := hkv.2.2; omega⟩ : RowKv 12 kv)
        walk_at "ss"
        refine h_tail _ _ _ _ G' _ _ _ _ _ a b q nd rd cs nm ps bG gq hcl hct gnd hok hml grd hps nrn fun v6 v7 v8 v9 G2 x2 b2 => ?_
        exact ⟨⟨_, _, _, _, _, _, _, _, _, rfl⟩, fun aa o ha => x2 _ _ (ne_of_none ha hbH) (xG _ _ (ne_of_none ha hbH) (X5 _ _ (ne_of_none ha hbH) (e _ _ ha)))⟩
    · rintro σ' G ⟨⟨v1, v2, v3, v4, v5, v6, v7, v8, v9, rfl⟩, e⟩
      walk_at "ss"
      exact k _

end
def d_Twice_init : He.DefD := ⟨("Twice", some "__init__"), "__init__", "Twice.__init__", defArgs s_Twice_init, defBody s_Twice_init, defScope s_Twice_init, [], []⟩
def d_need_unlike : He.DefD := ⟨("need_unlike", none), "need_unlike", "need_unlike", defArgs s_need_unlike, defBody s_need_unlike, defScope s_need_unlike, [], []⟩
def d_named_row : He.DefD := ⟨("named_row", none), "named_row", "named_row", defArgs s_named_row, defBody s_named_row, defScope s_named_row, [], []⟩
def d_named_clock : He.DefD := ⟨("named_clock", none), "named_clock", "named_clock", defArgs s_named_clock, defBody s_named_clock, defScope s_named_clock, [], []⟩
def d_cell_at_l : He.DefD := ⟨("_law_cell_at", none), "_law_cell_at", "_law_cell_at", defArgs s_cell_at_l, defBody s_cell_at_l, defScope s_cell_at_l, [], []⟩
def d_box_l : He.DefD := ⟨("_law_box", none), "_law_box", "_law_box", defArgs s_box_l, defBody s_box_l, defScope s_box_l, [], []⟩
def d_take_l : He.DefD := ⟨("_law_take", none), "_law_take", "_law_take", defArgs s_take_l, defBody s_take_l, defScope s_take_l, [], []⟩
def d_mixed_l : He.DefD := ⟨("_law_mixed", none), "_law_mixed", "_law_mixed", defArgs s_mixed_l, defBody s_mixed_l, defScope s_mixed_l, [], []⟩
def d_names_l : He.DefD := ⟨("_law_names", none), "_law_names", "_law_names", defArgs s_names_l, defBody s_names_l, defScope s_names_l, [], []⟩
def d_pairs_l : He.DefD := ⟨("_law_pairs", none), "_law_pairs", "_law_pairs", defArgs s_pairs_l, defBody s_pairs_l, defScope s_pairs_l, [], []⟩
def d_answer_l : He.DefD := ⟨("_law_answer", none), "_law_answer", "_law_answer", defArgs s_answer_l, defBody s_answer_l, defScope s_answer_l, [], []⟩
def d_due_l : He.DefD := ⟨("_law_due", none), "_law_due", "_law_due", defArgs s_due_l, defBody s_due_l, defScope s_due_l, [], []⟩
def d_law : He.DefD := ⟨("law", none), "law", "law", defArgs s_law, defBody s_law, defScope s_law, [], []⟩
def fnL0 : List He.DefD := [d_Twice_init, d_need_unlike, d_named_row, d_named_clock, d_cell_at_l, d_box_l, d_take_l, d_mixed_l, d_names_l, d_pairs_l, d_answer_l, d_due_l, d_law]
def fnL : List He.DefD := fnL0
def faL0 : List He.Fa := [.glo "need_unlike", .glo "named_row", .glo "named_clock", .glo "_law_cell_at", .glo "_law_box", .glo "_law_take", .glo "_law_mixed", .glo "_law_names", .glo "_law_pairs", .glo "_law_answer", .glo "_law_due", .glo "law", .glo "BeatError", .glo "Twice", .free "dict", .free "enumerate", .free "isinstance", .free "len", .free "list", .free "max", .free "min", .free "range", .free "repr", .free "tuple"]
def faL : List He.Fa := faL0
def exs0 (K : PySem.W.Frag) : List Bool := [baseB K (He.ga K "BeatError"), PySem.W.excIn K (He.ga K "BeatError") [.type "ValueError", .type "Exception", .type "BaseException", .type "object"] "ValueError.__new__", PySem.W.keepIn K (.ref (He.ga K "BeatError")), icB K (He.ga K "BeatError"), exB K (He.ga K "Twice") ["name"], decide (PySem.W.findIn K (.ref (He.ga K "Twice")) "__init__" = some (some (.ref (He.fAd K ("Twice", some "__init__"))))), decide (PySem.W.typeIn K (.ref (He.fAd K ("Twice", some "__init__"))) = some (.type "function")), decide (PySem.W.exmOne K (.ref (He.ga K "Twice")) (.ref (He.ga K "Twice")) = some true), decide (PySem.W.kitOne K (.ref (He.ga K "Twice")) (.ref (He.ga K "BeatError")) = some true)]
def exs (K : PySem.W.Frag) : List Bool := exs0 K
abbrev RW : PySem.W.OpenRow := PySem.W.OpenLaw.row PySem.Challenge.rw_beatrows_k59_rows_with_other_names
def csL : List PySem.Str := ["BeatError", "Twice"]
def tsL : List PySem.Str := []
abbrev hk : PySem.W.Hook := hookK csL tsL faL fnL (fun K => (exs K).all id)
def ob (s : PySem.W.SharedT) : He.AlD × Bool := hkObs csL tsL faL fnL (fun K => (exs K).all id) (HandSHeadRun.getT s)
theorem ob_eq (s : PySem.W.SharedT) : ob s = hk.obs s.abs := hkObs_eq (HandSHeadRun.getT_eq s)
def loose0 : List PySem.Str := ["BeatError", "Twice", "need_unlike", "named_row", "named_clock", "_law_cell_at", "_law_box", "_law_take", "_law_is_whole", "_law_mixed", "_law_names", "_law_pairs", "_law_answer", "_law_due"]
def loose : List PySem.Str := loose0
theorem run (w : World) : HandSHeadRun.RunEq RW (PySem.W.view RW.prog [17]) hk ob 20000 loose w := by
  intro os
  kernel_rfl
theorem facts2 {P : Program} {w : World} {K : PySem.W.Frag} {h : Heap} {mg : Str → Option Value} {fa : Addr} (X : K.In h) (G : h.Ns mainGlobals mg) (hfa : mg "law" = some (.ref fa)) (c : He.SaysD faL fnL K) (hex : (exs K).all id = true) : ∃ fd : FuncData, (∀ (s : Shared) (v : Value), BindsTo s fd ⟨[v], []⟩ [("_law_script", v)]) ∧ ∀ base : Heap, K.In base → base.Ns mainGlobals mg → FnG P w K mg base CX0 10 fa fd ["_law_script"] (sp_law K) := by
  obtain ⟨fd0, D0⟩ := c.def_ 0 (d := d_Twice_init) rfl
  have F0 : Fun K "__init__" "Twice.__init__" s_Twice_init (He.fAd K ("Twice", some "__init__")) fd0 := fun_ofD D0
  have b0 := F0.binds (ps := ["self", "name"]) fun _ _ _ _ _ _ us hl => match us, hl with | [_, _], _ => rfl
  obtain ⟨fd1, D1⟩ := c.def_ 1 (d := d_need_unlike) rfl
  have F1 : Fun K "need_unlike" "need_unlike" s_need_unlike (He.fAd K ("need_unlike", none)) fd1 := fun_ofD D1
  have b1 := F1.binds (ps := ["names", "fresh"]) fun _ _ _ _ _ _ us hl => match us, hl with | [_, _], _ => rfl
  obtain ⟨fd2, D2⟩ := c.def_ 2 (d := d_named_row) rfl
  have F2 : Fun K "named_row" "named_row" s_named_row (He.fAd K ("named_row", none)) fd2 := fun_ofD D2
  have b2 := F2.binds (ps := ["row", "names"]) fun _ _ _ _ _ _ us hl => match us, hl with | [_, _], _ => rfl
  obtain ⟨fd3, D3⟩ := c.def_ 3 (d := d_named_clock) rfl
  have F3 : Fun K "named_clock" "named_clock" s_named_clock (He.fAd K ("named_clock", none)) fd3 := fun_ofD D3
  have b3 := F3.binds (ps := ["clock", "names"]) fun _ _ _ _ _ _ us hl => match us, hl with | [_, _], _ => rfl
  obtain ⟨fd4, D4⟩ := c.def_ 4 (d := d_cell_at_l) rfl
  have F4 : Fun K "_law_cell_at" "_law_cell_at" s_cell_at_l (He.fAd K ("_law_cell_at", none)) fd4 := fun_ofD D4
  have b4 := F4.binds (ps := ["_law_script", "_law_k"]) fun _ _ _ _ _ _ us hl => match us, hl with | [_, _], _ => rfl
  obtain ⟨fd5, D5⟩ := c.def_ 5 (d := d_box_l) rfl
  have F5 : Fun K "_law_box" "_law_box" s_box_l (He.fAd K ("_law_box", none)) fd5 := fun_ofD D5
  have b5 := F5.binds (ps := ["_law_cell"]) fun _ _ _ _ _ _ us hl => match us, hl with | [_], _ => rfl
  obtain ⟨fd6, D6⟩ := c.def_ 6 (d := d_take_l) rfl
  have F6 : Fun K "_law_take" "_law_take" s_take_l (He.fAd K ("_law_take", none)) fd6 := fun_ofD D6
  have b6 := F6.binds (ps := ["_law_box_here", "_law_many"]) fun _ _ _ _ _ _ us hl => match us, hl with | [_, _], _ => rfl
  obtain ⟨fd7, D7⟩ := c.def_ 7 (d := d_mixed_l) rfl
  have F7 : Fun K "_law_mixed" "_law_mixed" s_mixed_l (He.fAd K ("_law_mixed", none)) fd7 := fun_ofD D7
  have b7 := F7.binds (ps := ["_law_box_here", "_law_some"]) fun _ _ _ _ _ _ us hl => match us, hl with | [_, _], _ => rfl
  obtain ⟨fd8, D8⟩ := c.def_ 8 (d := d_names_l) rfl
  have F8 : Fun K "_law_names" "_law_names" s_names_l (He.fAd K ("_law_names", none)) fd8 := fun_ofD D8
  have b8 := F8.binds (ps := ["_law_box_here", "_law_many"]) fun _ _ _ _ _ _ us hl => match us, hl with | [_, _], _ => rfl
  obtain ⟨fd9, D9⟩ := c.def_ 9 (d := d_pairs_l) rfl
  have F9 : Fun K "_law_pairs" "_law_pairs" s_pairs_l (He.fAd K ("_law_pairs", none)) fd9 := fun_ofD D9
  have b9 := F9.binds (ps := ["_law_box_here", "_law_names_here"]) fun _ _ _ _ _ _ us hl => match us, hl with | [_, _], _ => rfl
  obtain ⟨fd10, D10⟩ := c.def_ 10 (d := d_answer_l) rfl
  have F10 : Fun K "_law_answer" "_law_answer" s_answer_l (He.fAd K ("_law_answer", none)) fd10 := fun_ofD D10
  have b10 := F10.binds (ps := ["_law_row", "_law_names_here"]) fun _ _ _ _ _ _ us hl => match us, hl with | [_, _], _ => rfl
  obtain ⟨fd11, D11⟩ := c.def_ 11 (d := d_due_l) rfl
  have F11 : Fun K "_law_due" "_law_due" s_due_l (He.fAd K ("_law_due", none)) fd11 := fun_ofD D11
  have b11 := F11.binds (ps := ["_law_row", "_law_names_here"]) fun _ _ _ _ _ _ us hl => match us, hl with | [_, _], _ => rfl
  obtain ⟨fd12, D12⟩ := c.def_ 12 (d := d_law) rfl
  have F12 : Fun K "law" "law" s_law (He.fAd K ("law", none)) fd12 := fun_ofD D12
  have b12 := F12.binds (ps := ["_law_script"]) fun _ _ _ _ _ _ us hl => match us, hl with | [_], _ => rfl
  have e := hfa.symm.trans (He.glo_ok X G (c.fact 11 (f := .glo "law") rfl))
  cases e
  have T : Txt K mg ⟨(He.fAd K ("Twice", some "__init__")), fd0, (He.fAd K ("need_unlike", none)), fd1, (He.fAd K ("named_row", none)), fd2, (He.fAd K ("named_clock", none)), fd3, (He.fAd K ("_law_cell_at", none)), fd4, (He.fAd K ("_law_box", none)), fd5, (He.fAd K ("_law_take", none)), fd6, (He.fAd K ("_law_mixed", none)), fd7, (He.fAd K ("_law_names", none)), fd8, (He.fAd K ("_law_pairs", none)), fd9, (He.fAd K ("_law_answer", none)), fd10, (He.fAd K ("_law_due", none)), fd11, (He.fAd K ("law", none)), fd12, (He.ga K "BeatError"), (He.ga K "Twice")⟩ := ⟨F0,
    b0,
    F1,
    b1,
    (He.glo_ok X G (c.fact 0 (f := .glo "need_unlike") rfl)),
    F2,
    b2,
    (He.glo_ok X G (c.fact 1 (f := .glo "named_row") rfl)),
    F3,
    b3,
    (He.glo_ok X G (c.fact 2 (f := .glo "named_clock") rfl)),
    F4,
    b4,
    (He.glo_ok X G (c.fact 3 (f := .glo "_law_cell_at") rfl)),
    F5,
    b5,
    (He.glo_ok X G (c.fact 4 (f := .glo "_law_box") rfl)),
    F6,
    b6,
    (He.glo_ok X G (c.fact 5 (f := .glo "_law_take") rfl)),
    F7,
    b7,
    (He.glo_ok X G (c.fact 6 (f := .glo "_law_mixed") rfl)),
    F8,
    b8,
    (He.glo_ok X G (c.fact 7 (f := .glo "_law_names") rfl)),
    F9,
    b9,
    (He.glo_ok X G (c.fact 8 (f := .glo "_law_pairs") rfl)),
    F10,
    b10,
    (He.glo_ok X G (c.fact 9 (f := .glo "_law_answer") rfl)),
    F11,
    b11,
    (He.glo_ok X G (c.fact 10 (f := .glo "_law_due") rfl)),
    F12,
    b12,
    (He.glo_ok X G (c.fact 11 (f := .glo "law") rfl)),
    (He.glo_ok X G (c.fact 12 (f := .glo "BeatError") rfl)),
    (allAt hex 0 (b := baseB K (He.ga K "BeatError")) rfl),
    (allAt hex 1 (b := PySem.W.excIn K (He.ga K "BeatError") [.type "ValueError", .type "Exception", .type "BaseException", .type "object"] "ValueError.__new__") rfl),
    (allAt hex 2 (b := PySem.W.keepIn K (.ref (He.ga K "BeatError"))) rfl),
    (allAt hex 3 (b := icB K (He.ga K "BeatError")) rfl),
    (He.glo_ok X G (c.fact 13 (f := .glo "Twice") rfl)),
    (allAt hex 4 (b := exB K (He.ga K "Twice") ["name"]) rfl),
    (of_decide_eq_true (allAt hex 5 (b := decide (PySem.W.findIn K (.ref (He.ga K "Twice")) "__init__" = some (some (.ref (He.fAd K ("Twice", some "__init__")))))) rfl)),
    (of_decide_eq_true (allAt hex 6 (b := decide (PySem.W.typeIn K (.ref (He.fAd K ("Twice", some "__init__"))) = some (.type "function"))) rfl)),
    (of_decide_eq_true (allAt hex 7 (b := decide (PySem.W.exmOne K (.ref (He.ga K "Twice")) (.ref (He.ga K "Twice")) = some true)) rfl)),
    (of_decide_eq_true (allAt hex 8 (b := decide (PySem.W.kitOne K (.ref (He.ga K "Twice")) (.ref (He.ga K "BeatError")) = some true)) rfl)),
    (He.free_ok X G (c.fact 14 (f := .free "dict") rfl)),
    (He.free_ok X G (c.fact 15 (f := .free "enumerate") rfl)),
    (He.free_ok X G (c.fact 16 (f := .free "isinstance") rfl)),
    (He.free_ok X G (c.fact 17 (f := .free "len") rfl)),
    (He.free_ok X G (c.fact 18 (f := .free "list") rfl)),
    (He.free_ok X G (c.fact 19 (f := .free "max") rfl)),
    (He.free_ok X G (c.fact 20 (f := .free "min") rfl)),
    (He.free_ok X G (c.fact 21 (f := .free "range") rfl)),
    (He.free_ok X G (c.fact 22 (f := .free "repr") rfl)),
    (He.free_ok X G (c.fact 23 (f := .free "tuple") rfl))⟩
  have bb := FunD.bindsA (ps := ["_law_script"]) D12 fun _ _ _ _ _ _ us hl => match us, hl with | [_], _ => rfl
  exact ⟨_, fun s v => bb s [v] rfl, fun base _ _ => ok_law T⟩
end Toy
open PySem PySem.W PySem.Calls PyProof.Rows in
set_option maxHeartbeats 0 in
theorem PySem.Challenge.cw_beatrows_k59_rows_with_other_names_holds : PySem.Challenge.rw_beatrows_k59_rows_with_other_names.Holds := by
  w_on; o_law
  refine HandSHeadRun.head_any (r := Toy.RW) (q := view Toy.RW.prog [17]) (H := Toy.hk) (ob := Toy.ob) (M := 20000) (loose := Toy.loose) (d := HandSHeadRun.topDef Toy.RW.prog 17) (kwd := []) Toy.ob_eq
    (by kernel_rfl) (fun s => by kernel_rfl) Toy.run (by kernel_rfl) (by kernel_rfl) (by kernel_rfl) (by rfl)
    (by first | assumption | decide +kernel) (by decide +kernel) ⟨rfl, rfl, rfl, rfl, rfl, by decide +kernel⟩ ?hw ?hc
  case hw => w_witness2
  case hc =>
    refine L2.walk_ofEG (l := PySem.Challenge.rw_beatrows_k59_rows_with_other_names) (n := 63) (k := 10) (x := "_law_script") (CX := L2.CX0) rfl (by decide) (by kernel_rfl) ⟨rfl, by decide, by decide⟩ ?F (fun _ _ _ _ z => z)
    intro w mg fa h Y G hmg0
    obtain ⟨K, KX, c⟩ := Y
    have hmg : mg ("law" : PySem.Str) = some (.ref fa) := by
      have e : (HandSHeadRun.topDef Toy.RW.prog 17).name = ("law" : PySem.Str) := by kernel_rfl
      rw [← e]
      exact hmg0
    obtain ⟨fd, hb, hF⟩ := Toy.facts2 (P := PySem.Challenge.rw_beatrows_k59_rows_with_other_names.prog) (w := w) KX G hmg c.1 c.2
    exact ⟨K, fd, Toy.sp_law K, KX, hb, fun H a ns hl _ hS => ⟨a, ns, rfl, hS, hl, fun _ => rfl⟩, hF⟩
